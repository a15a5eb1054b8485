import PyProof.Rows.All
import Wide.All
import OpenK.AllK
import Wide.FinOn
import HandS.ForMost
import HandS.Exc
import HandS.ExcOwn
import HandS.ExcInit
import HandS.ClsMeth
import KE.GoesEnum
import KE.GoesNew
import KE.GoesMore
import KE.SortData
import PyProof.ReprRoads
import HandS.SetFor
import HandS.Strs
import HandS.IsInst
import HandS.TupAny
import HandS.Style
import HandS.Zip
import HandS.Conv
import HandS.SortInts
import HandS.RaiseMore
import HandS.TryMany
import HandS.WordsExc
import HandS.Walk
import PySem.Challenge.RW_onescale_k19_whole_lots_that_go_by_numbe
set_option autoImplicit false
/-! Trees of trips over buttons, the lots that go, how they are counted: plain lists and numbers. -/
namespace K19

inductive Tr where
  | leaf (b : Int)
  | node (k : Int) (ps : List Tr)

mutual
def Tr.leaves : Tr → List Int
  | .leaf b => [b]
  | .node _ ps => Tr.leavesAll ps
def Tr.leavesAll : List Tr → List Int
  | [] => []
  | t :: ts => t.leaves ++ Tr.leavesAll ts
end
mutual
def Tr.goes (s : List Int) : Tr → Bool
  | .leaf b => decide (b ∈ s)
  | .node k ps => decide (k ≤ (Tr.ngoes s ps : Int))
def Tr.ngoes (s : List Int) : List Tr → Nat
  | [] => 0
  | t :: ts => (if t.goes s then 1 else 0) + Tr.ngoes s ts
end
mutual
def Tr.depth : Tr → Nat
  | .leaf _ => 0
  | .node _ ps => Tr.depthAll ps + 1
def Tr.depthAll : List Tr → Nat
  | [] => 0
  | t :: ts => max t.depth (Tr.depthAll ts)
end
mutual
def Tr.wf : Tr → Prop
  | .leaf b => 0 ≤ b ∧ b ≤ 99
  | .node k ps => 1 ≤ k ∧ k ≤ (ps.length : Int) ∧ Tr.wfAll ps
def Tr.wfAll : List Tr → Prop
  | [] => True
  | t :: ts => t.wf ∧ Tr.wfAll ts
end
/-- one more part in the table by how many go -/
def stepT (t : List Int) (g f : Int) : List Int := List.zipWith (· + ·) (t.map (· * f) ++ [0]) (0 :: t.map (· * g))
mutual
def Tr.sides (m n : List Int) : Tr → Int × Int
  | .leaf b => (if b ∈ n then 0 else 1, if b ∈ m then 0 else 1)
  | .node k ps => (((Tr.tbl m n [1] ps).drop k.toNat).sum, ((Tr.tbl m n [1] ps).take k.toNat).sum)
def Tr.tbl (m n : List Int) (t0 : List Int) : List Tr → List Int
  | [] => t0
  | t :: ts => Tr.tbl m n (stepT t0 (t.sides m n).1 (t.sides m n).2) ts
end

/-! ### what a tree says of a lot hangs on its own buttons alone -/
mutual
theorem goes_local (s s' : List Int) : ∀ t : Tr, (∀ x ∈ t.leaves, x ∈ s ↔ x ∈ s') → t.goes s = t.goes s'
  | .leaf b, h => by
    have e : b ∈ s ↔ b ∈ s' := h b (by simp [Tr.leaves])
    simp only [Tr.goes, e]
  | .node k ps, h => by
    simp only [Tr.goes]
    rw [ngoes_local s s' ps (fun x hx => h x (by simpa only [Tr.leaves] using hx))]
theorem ngoes_local (s s' : List Int) : ∀ ps : List Tr, (∀ x ∈ Tr.leavesAll ps, x ∈ s ↔ x ∈ s') → Tr.ngoes s ps = Tr.ngoes s' ps
  | [], _ => rfl
  | t :: ts, h => by
    simp only [Tr.leavesAll, List.mem_append] at h
    simp only [Tr.ngoes]
    rw [goes_local s s' t (fun x hx => h x (.inl hx)), ngoes_local s s' ts (fun x hx => h x (.inr hx))]
end
theorem ngoes_le (s : List Int) : ∀ ps : List Tr, Tr.ngoes s ps ≤ ps.length
  | [] => Nat.le_refl _
  | t :: ts => by
    have := ngoes_le s ts
    simp only [Tr.ngoes, List.length_cons]
    split <;> omega
theorem ngoes_append (s : List Int) : ∀ ps qs : List Tr, Tr.ngoes s (ps ++ qs) = Tr.ngoes s ps + Tr.ngoes s qs
  | [], qs => by simp [Tr.ngoes]
  | t :: ts, qs => by
    simp only [List.cons_append, Tr.ngoes]
    rw [ngoes_append s ts qs]
    omega
theorem leavesAll_append : ∀ ps qs : List Tr, Tr.leavesAll (ps ++ qs) = Tr.leavesAll ps ++ Tr.leavesAll qs
  | [], qs => by simp [Tr.leavesAll]
  | t :: ts, qs => by
    simp only [List.cons_append, Tr.leavesAll]
    rw [leavesAll_append ts qs, List.append_assoc]
mutual
theorem goes_full : ∀ (t : Tr) (s : List Int), t.wf → (∀ x ∈ t.leaves, x ∈ s) → t.goes s = true
  | .leaf b, s, _, h => by
    have e : b ∈ s := h b (by simp [Tr.leaves])
    simp only [Tr.goes, decide_eq_true e]
  | .node k ps, s, w, h => by
    simp only [Tr.wf] at w
    simp only [Tr.goes]
    have e := ngoes_full ps s w.2.2 (fun x hx => h x (by simpa only [Tr.leaves] using hx))
    rw [e]
    exact decide_eq_true w.2.1
theorem ngoes_full : ∀ (ps : List Tr) (s : List Int), Tr.wfAll ps → (∀ x ∈ Tr.leavesAll ps, x ∈ s) → Tr.ngoes s ps = ps.length
  | [], _, _, _ => rfl
  | t :: ts, s, w, h => by
    simp only [Tr.wfAll] at w
    simp only [Tr.leavesAll, List.mem_append] at h
    simp only [Tr.ngoes, List.length_cons]
    rw [goes_full t s w.1 (fun x hx => h x (.inl hx)), ngoes_full ts s w.2 (fun x hx => h x (.inr hx))]
    rw [if_pos rfl]
    omega
end
mutual
theorem goes_none : ∀ (t : Tr) (s : List Int), t.wf → (∀ x ∈ t.leaves, x ∉ s) → t.goes s = false
  | .leaf b, s, _, h => by
    have e : b ∉ s := h b (by simp [Tr.leaves])
    simp only [Tr.goes, decide_eq_false e]
  | .node k ps, s, w, h => by
    simp only [Tr.wf] at w
    simp only [Tr.goes]
    have e := ngoes_none ps s w.2.2 (fun x hx => h x (by simpa only [Tr.leaves] using hx))
    rw [e]
    exact decide_eq_false (by omega)
theorem ngoes_none : ∀ (ps : List Tr) (s : List Int), Tr.wfAll ps → (∀ x ∈ Tr.leavesAll ps, x ∉ s) → Tr.ngoes s ps = 0
  | [], _, _, _ => rfl
  | t :: ts, s, w, h => by
    simp only [Tr.wfAll] at w
    simp only [Tr.leavesAll, List.mem_append] at h
    simp only [Tr.ngoes]
    rw [goes_none t s w.1 (fun x hx => h x (.inl hx)), ngoes_none ts s w.2 (fun x hx => h x (.inr hx))]
    rfl
end

/-! ### sums over all lots of a list of buttons -/
def ind (b : Bool) : Int := if b then 1 else 0
def cnt (m n : List Int) : List Int → (List Int → Int) → Int
  | [], f => f []
  | x :: r, f => (if x ∈ m then 0 else 1) * cnt m n r f + (if x ∈ n then 0 else 1) * cnt m n r (fun s => f (x :: s))
theorem cnt_congr (m n : List Int) : ∀ (L : List Int) (f g : List Int → Int), (∀ s, (∀ x ∈ s, x ∈ L) → f s = g s) → cnt m n L f = cnt m n L g
  | [], f, g, h => h [] (fun x hx => nomatch hx)
  | y :: r, f, g, h => by
    simp only [cnt]
    rw [cnt_congr m n r f g (fun s hs => h s fun x hx => List.mem_cons_of_mem _ (hs x hx)),
      cnt_congr m n r (fun s => f (y :: s)) (fun s => g (y :: s)) (fun s hs => h (y :: s) fun x hx => by
        rcases List.mem_cons.mp hx with e | e
        · rw [e]; exact List.mem_cons_self
        · exact List.mem_cons_of_mem _ (hs x e))]
theorem cnt_mul (m n : List Int) (c : Int) : ∀ (L : List Int) (f : List Int → Int), cnt m n L (fun s => f s * c) = cnt m n L f * c
  | [], _ => rfl
  | x :: r, f => by
    simp only [cnt]
    rw [cnt_mul m n c r f, cnt_mul m n c r (fun s => f (x :: s)), Int.add_mul, Int.mul_assoc, Int.mul_assoc]
theorem cnt_add (m n : List Int) : ∀ (L : List Int) (f g : List Int → Int), cnt m n L (fun s => f s + g s) = cnt m n L f + cnt m n L g
  | [], _, _ => rfl
  | x :: r, f, g => by
    simp only [cnt]
    rw [cnt_add m n r f g, cnt_add m n r (fun s => f (x :: s)) (fun s => g (x :: s)), Int.mul_add, Int.mul_add]
    omega
theorem cnt_zero (m n : List Int) : ∀ (L : List Int) (f : List Int → Int), (∀ s, (∀ x ∈ s, x ∈ L) → f s = 0) → cnt m n L f = 0
  | [], _, h => h [] (fun x hx => nomatch hx)
  | y :: r, f, h => by
    simp only [cnt]
    rw [cnt_zero m n r f (fun s hs => h s fun x hx => List.mem_cons_of_mem _ (hs x hx)),
      cnt_zero m n r (fun s => f (y :: s)) (fun s hs => h (y :: s) fun x hx => by
        rcases List.mem_cons.mp hx with e | e
        · rw [e]; exact List.mem_cons_self
        · exact List.mem_cons_of_mem _ (hs x e))]
    simp
theorem cnt_append (m n : List Int) : ∀ (L R : List Int) (f : List Int → Int), cnt m n (L ++ R) f = cnt m n L (fun a => cnt m n R (fun b => f (a ++ b)))
  | [], _, _ => rfl
  | x :: r, R, f => by
    simp only [List.cons_append, cnt]
    rw [cnt_append m n r R f, cnt_append m n r R (fun s => f (x :: s))]
theorem cnt_sum (m n L : List Int) {α : Type} (F : α → List Int → Int) : ∀ js : List α, (js.map fun j => cnt m n L (F j)).sum = cnt m n L (fun s => (js.map fun j => F j s).sum)
  | [] => (cnt_zero m n L (fun s => (([] : List α).map fun j => F j s).sum) (fun s _ => rfl)).symm
  | j :: js => by
    simp only [List.map_cons, List.sum_cons]
    rw [cnt_sum m n L F js, ← cnt_add]
theorem sum_ind (c : Nat) : ∀ js : List Nat, js.Nodup → (js.map fun j => ind (decide (c = j))).sum = ind (decide (c ∈ js))
  | [], _ => rfl
  | j :: js, h => by
    have hn := List.nodup_cons.mp h
    rw [List.map_cons, List.sum_cons, sum_ind c js hn.2]
    by_cases e : c = j
    · subst e
      have h1 : decide (c ∈ js) = false := decide_eq_false hn.1
      rw [h1, decide_eq_true rfl, decide_eq_true (List.mem_cons_self)]
      rfl
    · have h1 : decide (c ∈ j :: js) = decide (c ∈ js) := by simp [e]
      rw [h1, decide_eq_false e]
      simp [ind]

/-! ### the table -/
def tab (m n : List Int) (ps : List Tr) : List Int := (List.range (ps.length + 1)).map fun j => cnt m n (Tr.leavesAll ps) (fun s => ind (decide (Tr.ngoes s ps = j)))
theorem tab_length (m n : List Int) (ps : List Tr) : (tab m n ps).length = ps.length + 1 := by simp [tab]
theorem tab_get (m n : List Int) (ps : List Tr) (j : Nat) (h : j < (tab m n ps).length) : (tab m n ps)[j] = cnt m n (Tr.leavesAll ps) (fun s => ind (decide (Tr.ngoes s ps = j))) := by simp [tab]
/-- what the two counts of a tree are to be -/
def SidesOk (m n : List Int) (t : Tr) : Prop := (t.sides m n).1 = cnt m n t.leaves (fun s => ind (t.goes s)) ∧ (t.sides m n).2 = cnt m n t.leaves (fun s => ind (!t.goes s))
theorem two_parts (m n : List Int) (ps : List Tr) (t : Tr) (hd : (Tr.leavesAll ps ++ t.leaves).Nodup) (f : Nat → Bool → Int) :
    cnt m n (Tr.leavesAll (ps ++ [t])) (fun s => f (Tr.ngoes s ps) (t.goes s)) = cnt m n (Tr.leavesAll ps) (fun a => cnt m n t.leaves (fun b => f (Tr.ngoes a ps) (t.goes b))) := by
  have e : Tr.leavesAll (ps ++ [t]) = Tr.leavesAll ps ++ t.leaves := by
    rw [leavesAll_append]
    simp [Tr.leavesAll]
  have hdis := (List.nodup_append.mp hd).2.2
  rw [e, cnt_append]
  refine cnt_congr m n _ _ _ fun a ha => cnt_congr m n _ _ _ fun b hb => ?_
  have e1 : Tr.ngoes (a ++ b) ps = Tr.ngoes a ps := ngoes_local _ _ ps fun x hx => by
    rw [List.mem_append]
    exact ⟨fun h => h.elim id fun h => absurd rfl (hdis x hx x (hb x h)), .inl⟩
  have e2 : t.goes (a ++ b) = t.goes b := goes_local _ _ t fun x hx => by
    rw [List.mem_append]
    exact ⟨fun h => h.elim (fun h => absurd rfl (hdis x (ha x h) x hx)) id, .inr⟩
  rw [e1, e2]
theorem ind_split (c j : Nat) (g : Bool) : ind (decide (c + (if g = true then 1 else 0) = j)) = ind (!g) * ind (decide (c = j)) + ind g * ind (decide (c + 1 = j)) := by
  cases g <;> simp [ind]
theorem tab_entry (m n : List Int) (ps : List Tr) (t : Tr) (hd : (Tr.leavesAll ps ++ t.leaves).Nodup) (ok : SidesOk m n t) (j : Nat) :
    cnt m n (Tr.leavesAll (ps ++ [t])) (fun s => ind (decide (Tr.ngoes s (ps ++ [t]) = j))) =
      cnt m n (Tr.leavesAll ps) (fun s => ind (decide (Tr.ngoes s ps = j))) * (t.sides m n).2 + cnt m n (Tr.leavesAll ps) (fun s => ind (decide (Tr.ngoes s ps + 1 = j))) * (t.sides m n).1 := by
  have e0 : (fun s => ind (decide (Tr.ngoes s (ps ++ [t]) = j))) = fun s => (fun (c : Nat) (g : Bool) => ind (decide (c + (if g = true then 1 else 0) = j))) (Tr.ngoes s ps) (t.goes s) := by
    funext s
    rw [ngoes_append]
    rfl
  rw [e0, two_parts m n ps t hd (fun (c : Nat) (g : Bool) => ind (decide (c + (if g = true then 1 else 0) = j)))]
  rw [ok.1, ok.2, ← cnt_mul, ← cnt_mul, ← cnt_add]
  refine cnt_congr m n _ _ _ fun a _ => ?_
  simp only [ind_split]
  rw [cnt_add, cnt_mul, cnt_mul, Int.mul_comm, Int.mul_comm (cnt m n t.leaves _)]
theorem stepT_length (t : List Int) (g f : Int) : (stepT t g f).length = t.length + 1 := by simp [stepT]
theorem tab_step (m n : List Int) (ps : List Tr) (t : Tr) (hd : (Tr.leavesAll ps ++ t.leaves).Nodup) (ok : SidesOk m n t) : stepT (tab m n ps) (t.sides m n).1 (t.sides m n).2 = tab m n (ps ++ [t]) := by
  refine List.ext_getElem (by rw [stepT_length, tab_length, tab_length, List.length_append, List.length_singleton]) fun j h1 h2 => ?_
  rw [tab_get, tab_entry m n ps t hd ok]
  simp only [stepT, List.getElem_zipWith]
  rw [stepT_length, tab_length] at h1
  congr 1
  · by_cases hj : j < ps.length + 1
    · rw [List.getElem_append_left (by rw [List.length_map, tab_length]; exact hj), List.getElem_map, tab_get]
    · rw [List.getElem_append_right (by rw [List.length_map, tab_length]; omega)]
      have z : cnt m n (Tr.leavesAll ps) (fun s => ind (decide (Tr.ngoes s ps = j))) = 0 := cnt_zero m n _ _ fun s _ => by
        have := ngoes_le s ps
        rw [decide_eq_false (by omega)]
        rfl
      rw [z]
      simp
  · cases j with
    | zero =>
      have z : cnt m n (Tr.leavesAll ps) (fun s => ind (decide (Tr.ngoes s ps + 1 = 0))) = 0 := cnt_zero m n _ _ fun s _ => by
        rw [decide_eq_false (by omega)]
        rfl
      rw [z]
      simp
    | succ i =>
      rw [List.getElem_cons_succ, List.getElem_map, tab_get]
      congr 2
      funext s
      congr 1
      simp
theorem tbl_tab (m n : List Int) : ∀ (ts ps : List Tr), (∀ t ∈ ts, SidesOk m n t) → (Tr.leavesAll (ps ++ ts)).Nodup → Tr.tbl m n (tab m n ps) ts = tab m n (ps ++ ts)
  | [], ps, _, _ => by simp [Tr.tbl]
  | t :: ts, ps, ok, hd => by
    have e : ps ++ t :: ts = (ps ++ [t]) ++ ts := by simp
    rw [e] at hd ⊢
    have hd' : (Tr.leavesAll ps ++ t.leaves).Nodup := by
      rw [leavesAll_append] at hd
      have := (List.nodup_append.mp hd).1
      rw [leavesAll_append] at this
      simpa [Tr.leavesAll] using this
    simp only [Tr.tbl]
    rw [tab_step m n ps t hd' (ok t List.mem_cons_self)]
    exact tbl_tab m n ts (ps ++ [t]) (fun u hu => ok u (List.mem_cons_of_mem _ hu)) hd
theorem tab_nil (m n : List Int) : tab m n [] = [1] := by simp [tab, Tr.leavesAll, Tr.ngoes, cnt, ind]
theorem node_sides (m n : List Int) (k : Int) (ps : List Tr) (hk : 0 ≤ k) (e : Tr.tbl m n [1] ps = tab m n ps) : SidesOk m n (.node k ps) := by
  have key : ∀ js : List Nat, js.Nodup → ∀ g : List Int → Bool, (∀ s, g s = decide (Tr.ngoes s ps ∈ js)) →
      (js.map fun j => cnt m n (Tr.leavesAll ps) (fun s => ind (decide (Tr.ngoes s ps = j)))).sum = cnt m n (Tr.leavesAll ps) (fun s => ind (g s)) := fun js hj g hg => by
    rw [cnt_sum m n (Tr.leavesAll ps) (fun j s => ind (decide (Tr.ngoes s ps = j))) js]
    refine cnt_congr m n _ _ _ fun s _ => ?_
    rw [sum_ind _ js hj, hg]
  have hr : (List.range (ps.length + 1)).Nodup := List.nodup_range
  refine ⟨?_, ?_⟩
  · simp only [Tr.sides, Tr.leaves]
    rw [e]
    unfold tab
    rw [← List.map_drop]
    refine key _ (List.Nodup.sublist (List.drop_sublist _ _) hr) _ fun s => ?_
    have := ngoes_le s ps
    simp only [Tr.goes]
    refine decide_eq_decide.mpr ⟨fun h => ?_, fun h => ?_⟩
    · rw [List.mem_iff_getElem]
      refine ⟨Tr.ngoes s ps - k.toNat, by simp; omega, by simp; omega⟩
    · obtain ⟨i, hi, q⟩ := List.mem_iff_getElem.mp h
      simp at q
      omega
  · simp only [Tr.sides, Tr.leaves]
    rw [e]
    unfold tab
    rw [← List.map_take]
    refine key _ (List.Nodup.sublist (List.take_sublist _ _) hr) _ fun s => ?_
    have := ngoes_le s ps
    simp only [Tr.goes]
    rw [← decide_not]
    refine decide_eq_decide.mpr ⟨fun h => ?_, fun h => ?_⟩
    · rw [List.mem_iff_getElem]
      refine ⟨Tr.ngoes s ps, by simp; omega, by simp⟩
    · obtain ⟨i, hi, q⟩ := List.mem_iff_getElem.mp h
      simp at q hi
      omega
mutual
theorem sides_ok (m n : List Int) : ∀ t : Tr, t.wf → t.leaves.Nodup → SidesOk m n t
  | .leaf b, _, _ => by
    unfold SidesOk
    simp only [Tr.sides, Tr.leaves, cnt, Tr.goes]
    constructor <;> simp [ind]
  | .node k ps, w, hd => by
    simp only [Tr.wf] at w
    simp only [Tr.leaves] at hd
    refine node_sides m n k ps (by omega) ?_
    have := tbl_tab m n ps [] (sidesAll_ok m n ps w.2.2 hd) (by simpa using hd)
    rw [tab_nil] at this
    simpa using this
theorem sidesAll_ok (m n : List Int) : ∀ ps : List Tr, Tr.wfAll ps → (Tr.leavesAll ps).Nodup → ∀ t ∈ ps, SidesOk m n t
  | [], _, _, t, h => nomatch h
  | u :: us, w, hd, t, h => by
    simp only [Tr.wfAll] at w
    simp only [Tr.leavesAll] at hd
    have hd' := List.nodup_append.mp hd
    rcases List.mem_cons.mp h with e | e
    · rw [e]; exact sides_ok m n u w.1 hd'.1
    · exact sidesAll_ok m n us w.2 hd'.2.1 t e
end
end K19

/-! Lots in order, their numbers. -/
namespace K19
open List (Perm)
theorem cnt_perm (m n : List Int) {L L' : List Int} (h : L.Perm L') : ∀ f : List Int → Int, (∀ s s', (∀ x, x ∈ s ↔ x ∈ s') → f s = f s') → cnt m n L f = cnt m n L' f := by
  induction h with
  | nil => intro f _; rfl
  | cons x _ ih =>
    intro f hf
    simp only [cnt]
    rw [ih f hf, ih (fun s => f (x :: s)) fun s s' e => hf _ _ fun y => by rw [List.mem_cons, List.mem_cons, e]]
  | swap x y l =>
    intro f hf
    simp only [cnt]
    have e : cnt m n l (fun s => f (x :: y :: s)) = cnt m n l (fun s => f (y :: x :: s)) := cnt_congr m n l _ _ fun s _ => hf _ _ fun z => by
      simp only [List.mem_cons]
      constructor <;> (rintro (h | h | h) <;> simp [h])
    rw [e]
    simp only [Int.mul_add]
    rw [Int.mul_left_comm (if x ∈ m then 0 else 1), Int.mul_left_comm (if x ∈ n then 0 else 1) (if y ∈ m then 0 else 1), Int.mul_left_comm (if x ∈ m then 0 else 1) (if y ∈ n then 0 else 1), Int.mul_left_comm (if x ∈ n then 0 else 1) (if y ∈ n then 0 else 1)]
    omega
  | trans _ _ ih1 ih2 =>
    intro f hf
    rw [ih1 f hf, ih2 f hf]
/-- over all lots -/
def cnt1 : List Int → (List Int → Int) → Int
  | [], f => f []
  | x :: r, f => cnt1 r f + cnt1 r (fun s => f (x :: s))
theorem cnt1_congr : ∀ (L : List Int) (f g : List Int → Int), (∀ s, (∀ x ∈ s, x ∈ L) → f s = g s) → cnt1 L f = cnt1 L g
  | [], f, g, h => h [] (fun x hx => nomatch hx)
  | y :: r, f, g, h => by
    simp only [cnt1]
    rw [cnt1_congr r f g (fun s hs => h s fun x hx => List.mem_cons_of_mem _ (hs x hx)),
      cnt1_congr r (fun s => f (y :: s)) (fun s => g (y :: s)) (fun s hs => h (y :: s) fun x hx => by
        rcases List.mem_cons.mp hx with e | e
        · rw [e]; exact List.mem_cons_self
        · exact List.mem_cons_of_mem _ (hs x e))]
theorem cnt1_zero : ∀ (L : List Int), cnt1 L (fun _ => 0) = 0
  | [] => rfl
  | x :: r => by simp only [cnt1]; rw [cnt1_zero r]; rfl
theorem cnt1_nonneg : ∀ (L : List Int) (f : List Int → Int), (∀ s, 0 ≤ f s) → 0 ≤ cnt1 L f
  | [], f, h => h []
  | x :: r, f, h => by
    simp only [cnt1]
    have a := cnt1_nonneg r f h
    have b := cnt1_nonneg r (fun s => f (x :: s)) fun s => h _
    omega
/-- the weights by a test of the whole lot -/
theorem cnt_fits (m n : List Int) : ∀ (L : List Int) (f : List Int → Int), L.Nodup → cnt m n L f = cnt1 L (fun s => if ∀ x ∈ L, (x ∈ m → x ∈ s) ∧ (x ∈ n → x ∉ s) then f s else 0)
  | [], f, _ => by simp [cnt, cnt1]
  | y :: r, f, hd => by
    obtain ⟨hy, hr⟩ := List.nodup_cons.mp hd
    simp only [cnt, cnt1]
    rw [cnt_fits m n r f hr, cnt_fits m n r (fun s => f (y :: s)) hr]
    congr 1
    · by_cases e : y ∈ m
      · rw [if_pos e, Int.zero_mul]
        refine (cnt1_zero r).symm.trans (cnt1_congr r _ _ fun s hs => ?_)
        rw [if_neg fun h => hy (hs y ((h y List.mem_cons_self).1 e))]
      · rw [if_neg e, Int.one_mul]
        refine cnt1_congr r _ _ fun s hs => ?_
        have : (∀ x ∈ y :: r, (x ∈ m → x ∈ s) ∧ (x ∈ n → x ∉ s)) ↔ ∀ x ∈ r, (x ∈ m → x ∈ s) ∧ (x ∈ n → x ∉ s) := ⟨fun h x hx => h x (List.mem_cons_of_mem _ hx), fun h x hx => by
          rcases List.mem_cons.mp hx with z | z
          · rw [z]; exact ⟨fun q => absurd q e, fun _ q => hy (hs y q)⟩
          · exact h x z⟩
        simp only [this]
    · by_cases e : y ∈ n
      · rw [if_pos e, Int.zero_mul]
        refine (cnt1_zero r).symm.trans (cnt1_congr r _ _ fun s hs => ?_)
        rw [if_neg fun h => (h y List.mem_cons_self).2 e List.mem_cons_self]
      · rw [if_neg e, Int.one_mul]
        refine cnt1_congr r _ _ fun s hs => ?_
        have : (∀ x ∈ y :: r, (x ∈ m → x ∈ y :: s) ∧ (x ∈ n → x ∉ y :: s)) ↔ ∀ x ∈ r, (x ∈ m → x ∈ s) ∧ (x ∈ n → x ∉ s) := ⟨fun h x hx => by
            have q := h x (List.mem_cons_of_mem _ hx)
            have ne : x ≠ y := fun z => hy (z ▸ hx)
            simp only [List.mem_cons, ne, false_or] at q
            exact q, fun h x hx => by
          rcases List.mem_cons.mp hx with z | z
          · rw [z]; exact ⟨fun _ => List.mem_cons_self, fun q => absurd q e⟩
          · have q := h x z
            have ne : x ≠ y := fun w => hy (w ▸ z)
            simp only [List.mem_cons, ne, false_or]
            exact q⟩
        simp only [this]
/-- a button that must and must not be -/
theorem cnt_torn (m n : List Int) (y : Int) (h1 : y ∈ m) (h2 : y ∈ n) : ∀ (L : List Int) (f : List Int → Int), y ∈ L → cnt m n L f = 0
  | x :: r, f, h => by
    simp only [cnt]
    rcases List.mem_cons.mp h with e | e
    · subst e
      rw [if_pos h1, if_pos h2]
      simp
    · rw [cnt_torn m n y h1 h2 r f e, cnt_torn m n y h1 h2 r (fun s => f (x :: s)) e]
      simp
/-- the decided buttons ahead, the open ones behind -/
theorem cnt_tail (m n : List Int) (r : List Int) (hr : ∀ x ∈ r, x ∉ m ∧ x ∉ n) : ∀ f : List Int → Int, cnt m n r f = cnt1 r f := by
  induction r with
  | nil => intro f; rfl
  | cons x r ih =>
    intro f
    have e := hr x List.mem_cons_self
    have ih' := ih fun y hy => hr y (List.mem_cons_of_mem _ hy)
    simp only [cnt, cnt1]
    rw [if_neg e.1, if_neg e.2, ih', ih', Int.one_mul, Int.one_mul]
theorem cnt_split (m n : List Int) (r : List Int) (hr : ∀ x ∈ r, x ∉ m ∧ x ∉ n) : ∀ (pre : List Int), (∀ x ∈ pre, (x ∈ m ∧ x ∉ n) ∨ (x ∉ m ∧ x ∈ n)) → ∀ f : List Int → Int,
    cnt m n (pre ++ r) f = cnt1 r (fun s => f (pre.filter (fun x => decide (x ∈ m)) ++ s))
  | [], _, f => cnt_tail m n r hr f
  | x :: pre, hp, f => by
    have ih := cnt_split m n r hr pre fun y hy => hp y (List.mem_cons_of_mem _ hy)
    simp only [List.cons_append, cnt]
    rw [ih, ih]
    rcases hp x List.mem_cons_self with ⟨a, b⟩ | ⟨a, b⟩
    · rw [if_pos a, if_neg b, List.filter_cons_of_pos (by simpa using a)]
      simp
    · rw [if_neg a, if_pos b, List.filter_cons_of_neg (by simpa using a)]
      simp

/-! ### all lots of a row, one behind another -/
def stepE (found : List (List Int)) (b : Int) : List (List Int) := found ++ found.map (fun s => s ++ [b])
def every (row : List Int) : List (List Int) := row.foldl stepE [[]]
theorem sum_app (a b : List Int) : (a ++ b).sum = a.sum + b.sum := by
  induction a with
  | nil => simp
  | cons x a ih => rw [List.cons_append, List.sum_cons, List.sum_cons, ih]; omega
theorem sum_two {α : Type} (f g : α → Int) : ∀ l : List α, (l.map f).sum + (l.map g).sum = (l.map fun s => f s + g s).sum
  | [] => rfl
  | x :: l => by
    simp only [List.map_cons, List.sum_cons]
    rw [← sum_two f g l]
    omega
theorem every_sum (f : List Int → Int) : ∀ (row : List Int) (found : List (List Int)), ((row.foldl stepE found).map f).sum = (found.map fun s => cnt1 row (fun t => f (s ++ t))).sum
  | [], found => by simp [cnt1]
  | b :: row, found => by
    rw [List.foldl_cons, every_sum f row]
    unfold stepE
    rw [List.map_append, List.map_map, sum_app, sum_two]
    congr 1
    refine List.map_congr_left fun s _ => ?_
    simp [cnt1]
theorem every_total (row : List Int) (f : List Int → Int) : ((every row).map f).sum = cnt1 row f := by
  unfold every
  rw [every_sum]
  simp
theorem every_length : ∀ (row : List Int) (found : List (List Int)), (row.foldl stepE found).length = found.length * 2 ^ row.length
  | [], found => by simp
  | b :: row, found => by
    rw [List.foldl_cons, every_length row]
    simp only [stepE, List.length_append, List.length_map, List.length_cons]
    rw [Nat.pow_succ, ← Nat.mul_two, Nat.mul_assoc, Nat.mul_comm 2]
theorem sum_perm {a b : List Int} (h : a.Perm b) : a.sum = b.sum := by
  induction h with
  | nil => rfl
  | cons x _ ih => rw [List.sum_cons, List.sum_cons, ih]
  | swap x y l => simp only [List.sum_cons]; omega
  | trans _ _ h1 h2 => rw [h1, h2]
theorem filter_sum {α : Type} (p : α → Bool) : ∀ l : List α, ((l.filter p).length : Int) = (l.map fun s => ind (p s)).sum
  | [] => rfl
  | x :: l => by
    rw [List.map_cons, List.sum_cons, ← filter_sum p l]
    cases e : p x with
    | true =>
      rw [List.filter_cons_of_pos e, List.length_cons]
      simp [ind]
      omega
    | false =>
      rw [List.filter_cons_of_neg (by simp [e])]
      simp [ind]
theorem many_row (m n : List Int) (t : Tr) (row : List Int) (w : t.wf) (hp : t.leaves.Perm row) (hn : row.Nodup) : (t.sides m n).1 = cnt m n row (fun s => ind (t.goes s)) := by
  rw [(sides_ok m n t w (hp.nodup_iff.mpr hn)).1]
  refine cnt_perm m n hp _ fun s s' e => ?_
  rw [goes_local s s' t fun x _ => e x]
theorem due_count (t : Tr) (row : List Int) (going : List (List Int)) (must never : List Int) (w : t.wf) (hp : t.leaves.Perm row) (hn : row.Nodup) (hg : going.Perm ((every row).filter fun s => t.goes s)) (hm : ∀ x ∈ must, x ∈ row) :
    (((going.filter fun s => decide (∀ x ∈ must, x ∈ s)).filter fun s => decide (∀ x ∈ never, x ∉ s)).length : Int) = (t.sides must never).1 := by
  rw [many_row must never t row w hp hn, cnt_fits must never row _ hn, ← every_total]
  have e : (((going.filter fun s => decide (∀ x ∈ must, x ∈ s)).filter fun s => decide (∀ x ∈ never, x ∉ s))).Perm (((every row).filter fun s => t.goes s).filter fun s => decide (∀ x ∈ must, x ∈ s) && decide (∀ x ∈ never, x ∉ s)) := by
    rw [List.filter_filter]
    refine (hg.filter _).trans ?_
    rw [List.filter_congr]
    intro s _
    exact Bool.and_comm _ _
  rw [e.length_eq, List.filter_filter, filter_sum, every_total, every_total]
  refine cnt1_congr row _ _ fun s hs => ?_
  have e2 : (∀ x ∈ row, (x ∈ must → x ∈ s) ∧ (x ∈ never → x ∉ s)) ↔ (∀ x ∈ must, x ∈ s) ∧ (∀ x ∈ never, x ∉ s) :=
    ⟨fun h => ⟨fun x hx => (h x (hm x hx)).1 hx, fun x hx q => (h x (hs x q)).2 hx q⟩, fun h x _ => ⟨h.1 x, h.2 x⟩⟩
  by_cases c1 : ∀ x ∈ must, x ∈ s
  · by_cases c2 : ∀ x ∈ never, x ∉ s
    · rw [if_pos (e2.mpr ⟨c1, c2⟩), decide_eq_true c1, decide_eq_true c2]
      simp
    · rw [if_neg fun h => c2 (e2.mp h).2, decide_eq_false c2]
      simp [ind]
  · rw [if_neg fun h => c1 (e2.mp h).1, decide_eq_false c1]
    simp [ind]
theorem every_mem : ∀ (row : List Int) (found : List (List Int)) (s : List Int), s ∈ row.foldl stepE found → ∃ a ∈ found, ∃ b, s = a ++ b ∧ ∀ x ∈ b, x ∈ row
  | [], found, s, h => ⟨s, h, [], by simp, fun x hx => nomatch hx⟩
  | y :: row, found, s, h => by
    rw [List.foldl_cons] at h
    obtain ⟨a, ha, b, e, hb⟩ := every_mem row _ s h
    rcases List.mem_append.mp ha with ha | ha
    · exact ⟨a, ha, b, e, fun x hx => List.mem_cons_of_mem _ (hb x hx)⟩
    · obtain ⟨a', ha', rfl⟩ := List.mem_map.mp ha
      refine ⟨a', ha', y :: b, by rw [e]; simp, fun x hx => ?_⟩
      rcases List.mem_cons.mp hx with z | z
      · rw [z]; exact List.mem_cons_self
      · exact List.mem_cons_of_mem _ (hb x z)
theorem every_sub {row s : List Int} (h : s ∈ every row) : ∀ x ∈ s, x ∈ row := by
  obtain ⟨a, ha, b, e, hb⟩ := every_mem row [[]] s h
  have ea : a = [] := by simpa using ha
  subst ea
  rw [e]
  simpa using hb
theorem due_none (t : Tr) (row : List Int) (going : List (List Int)) (must never : List Int) (hg : going.Perm ((every row).filter fun s => t.goes s)) {y : Int} (hy : y ∈ must) (hr : y ∉ row) :
    ((going.filter fun s => decide (∀ x ∈ must, x ∈ s)).filter fun s => decide (∀ x ∈ never, x ∉ s)).length = 0 := by
  have e : going.filter (fun s => decide (∀ x ∈ must, x ∈ s)) = [] := by
    rw [List.filter_eq_nil_iff]
    intro s hs q
    have hs' := (List.mem_filter.mp (hg.mem_iff.mp hs)).1
    exact hr (every_sub hs' y (of_decide_eq_true q y hy))
  rw [e]
  rfl
/-! ### the lots that go, as tuples ascend -/
/-- those that begin with lot and have more, of the buttons r -/
def lexg (g : List Int → Bool) (lot : List Int) : List Int → List (List Int)
  | [] => []
  | b :: r => (if g (lot ++ [b]) then [lot ++ [b]] else []) ++ (lexg g (lot ++ [b]) r ++ lexg g lot r)
/-- lot itself, if it goes, ahead of these -/
def blk (g : List Int → Bool) (lot r : List Int) : List (List Int) := (if g lot then [lot] else []) ++ lexg g lot r
theorem lexg_cons (g : List Int → Bool) (lot : List Int) (b : Int) (r : List Int) : lexg g lot (b :: r) = blk g (lot ++ [b]) r ++ lexg g lot r := by
  simp only [lexg, blk, List.append_assoc]
theorem blk_length (g : List Int → Bool) : ∀ (r lot : List Int), ((blk g lot r).length : Int) = cnt1 r (fun s => ind (g (lot ++ s)))
  | [], lot => by
    simp only [blk, lexg, cnt1, List.append_nil]
    cases g lot <;> simp [ind]
  | b :: r, lot => by
    have h1 := blk_length g r lot
    have h2 := blk_length g r (lot ++ [b])
    simp only [cnt1]
    have e : (fun s => ind (g (lot ++ b :: s))) = fun s => ind (g (lot ++ [b] ++ s)) := by
      funext s
      simp
    rw [e, ← h1, ← h2]
    unfold blk
    rw [lexg_cons]
    unfold blk
    simp only [List.length_append]
    omega
theorem lexg_mem (g : List Int → Bool) : ∀ (r lot s : List Int), s ∈ lexg g lot r → g s = true ∧ ∃ c u, s = lot ++ c :: u ∧ c ∈ r ∧ (∀ x ∈ u, x ∈ r)
  | [], lot, s, h => nomatch h
  | b :: r, lot, s, h => by
    rw [lexg_cons] at h
    unfold blk at h
    simp only [List.mem_append] at h
    rcases h with (h | h) | h
    · cases e : g (lot ++ [b]) with
      | false => rw [e] at h; simp at h
      | true =>
        rw [e] at h
        have : s = lot ++ [b] := by simpa using h
        subst this
        exact ⟨e, b, [], rfl, List.mem_cons_self, fun x hx => nomatch hx⟩
    · obtain ⟨h1, c, u, e, hc, hu⟩ := lexg_mem g r (lot ++ [b]) s h
      refine ⟨h1, b, c :: u, by rw [e]; simp, List.mem_cons_self, fun x hx => ?_⟩
      rcases List.mem_cons.mp hx with z | z
      · rw [z]; exact List.mem_cons_of_mem _ hc
      · exact List.mem_cons_of_mem _ (hu x z)
    · obtain ⟨h1, c, u, e, hc, hu⟩ := lexg_mem g r lot s h
      exact ⟨h1, c, u, e, List.mem_cons_of_mem _ hc, fun x hx => List.mem_cons_of_mem _ (hu x hx)⟩
theorem lexg_sorted (g : List Int → Bool) : ∀ (r lot : List Int), r.Pairwise (· < ·) → (lexg g lot r).Pairwise (· < ·)
  | [], _, _ => List.Pairwise.nil
  | b :: r, lot, h => by
    obtain ⟨hb, hr⟩ := List.pairwise_cons.mp h
    rw [lexg_cons]
    have in1 : (blk g (lot ++ [b]) r).Pairwise (· < ·) := by
      unfold blk
      refine List.pairwise_append.mpr ⟨?_, lexg_sorted g r _ hr, fun x hx y hy => ?_⟩
      · cases g (lot ++ [b]) <;> simp
      · have ex : x = lot ++ [b] := by
          cases e : g (lot ++ [b]) with
          | false => rw [e] at hx; simp at hx
          | true => rw [e] at hx; simpa using hx
        obtain ⟨_, c, u, ey, _, _⟩ := lexg_mem g r _ y hy
        rw [ex, ey]
        have : lot ++ [b] ++ [] < lot ++ [b] ++ c :: u := List.append_left_lt (List.nil_lt_cons _ _)
        simpa using this
    refine List.pairwise_append.mpr ⟨in1, lexg_sorted g r lot hr, fun x hx y hy => ?_⟩
    obtain ⟨_, c, u, ey, hc, _⟩ := lexg_mem g r _ y hy
    have ex : ∃ v, x = lot ++ b :: v := by
      unfold blk at hx
      rcases List.mem_append.mp hx with hx | hx
      · cases e : g (lot ++ [b]) with
        | false => rw [e] at hx; simp at hx
        | true => rw [e] at hx; exact ⟨[], by simpa using hx⟩
      · obtain ⟨_, d, v, e, _, _⟩ := lexg_mem g r _ x hx
        exact ⟨d :: v, by rw [e]; simp⟩
    obtain ⟨v, rfl⟩ := ex
    subst ey
    exact List.append_left_lt (List.cons_lt_cons_iff.mpr (.inl (hb c hc)))
end K19

namespace K19
/-! ### the lots that go in order are the lots that go -/
theorem lexg_filter (g : List Int → Bool) : ∀ (r lot : List Int), lexg g lot r = (lexg (fun _ => true) lot r).filter g
  | [], _ => rfl
  | b :: r, lot => by
    simp only [lexg]
    rw [lexg_filter g r (lot ++ [b]), lexg_filter g r lot]
    simp only [if_true, List.filter_append]
    congr 1
    cases e : g (lot ++ [b]) <;> simp [e]
theorem flat_two {α β : Type} (f h : α → List β) : ∀ l : List α, (l.flatMap f ++ l.flatMap h).Perm (l.flatMap fun a => f a ++ h a)
  | [] => List.Perm.refl _
  | x :: l => by
    simp only [List.flatMap_cons]
    have ih := flat_two f h l
    have e : (f x ++ l.flatMap f ++ (h x ++ l.flatMap h)).Perm (f x ++ (h x ++ (l.flatMap f ++ l.flatMap h))) := by
      rw [List.append_assoc]
      refine List.Perm.append_left _ ?_
      rw [← List.append_assoc, ← List.append_assoc]
      exact List.Perm.append_right _ List.perm_append_comm
    refine e.trans ?_
    rw [List.append_assoc]
    exact List.Perm.append_left _ (List.Perm.append_left _ ih)
theorem flat_perm {α β : Type} {f h : α → List β} : ∀ (l : List α), (∀ a, (f a).Perm (h a)) → (l.flatMap f).Perm (l.flatMap h)
  | [], _ => List.Perm.refl _
  | x :: l, q => by
    simp only [List.flatMap_cons]
    exact (q x).append (flat_perm l q)
theorem every_perm : ∀ (row : List Int) (found : List (List Int)), (row.foldl stepE found).Perm (found.flatMap fun a => blk (fun _ => true) a row)
  | [], found => by
    have e : (found.flatMap fun a => blk (fun _ => true) a []) = found := by
      simp [blk, lexg]
    rw [e]
    exact List.Perm.refl _
  | b :: row, found => by
    rw [List.foldl_cons]
    refine (every_perm row _).trans ?_
    unfold stepE
    rw [List.flatMap_append, List.flatMap_map]
    refine (flat_two _ _ found).trans ?_
    refine flat_perm found fun a => ?_
    unfold blk
    rw [lexg_cons]
    unfold blk
    simp only [if_true, List.append_assoc]
    refine List.Perm.append_left _ ?_
    refine List.perm_append_comm.trans ?_
    rw [List.append_assoc]
/-- all lots that go, in order -/
def lots (t : Tr) (row : List Int) : List (List Int) := lexg (fun s => t.goes s) [] row
theorem lots_perm (t : Tr) (row : List Int) (w : t.wf) : ((every row).filter fun s => t.goes s).Perm (lots t row) := by
  unfold lots
  rw [lexg_filter]
  have h := (every_perm row [[]]).filter fun s => t.goes s
  have e : ([[]] : List (List Int)).flatMap (fun a => blk (fun _ => true) a row) = [] :: lexg (fun _ => true) [] row := by
    simp [blk]
  rw [e] at h
  have z : t.goes [] = false := goes_none t [] w fun x _ q => nomatch q
  rw [List.filter_cons_of_neg (by rw [z]; decide)] at h
  exact h
theorem lots_sorted (t : Tr) (row : List Int) (h : row.Pairwise (· < ·)) : (lots t row).Pairwise (· < ·) := lexg_sorted _ row [] h
theorem lots_length (t : Tr) (row : List Int) (w : t.wf) (hp : t.leaves.Perm row) (hn : row.Nodup) : ((lots t row).length : Int) = (t.sides [] []).1 := by
  have z : t.goes [] = false := goes_none t [] w fun x _ q => nomatch q
  have h := blk_length (fun s => t.goes s) row []
  rw [many_row [] [] t row w hp hn, cnt_tail [] [] row (fun x _ => ⟨List.not_mem_nil, List.not_mem_nil⟩)]
  rw [show blk (fun s => t.goes s) [] row = lots t row by
    unfold blk lots
    rw [if_neg (show ¬ ((fun s => t.goes s) [] = true) by rw [show (fun s => t.goes s) [] = false from z]; decide)]
    rfl] at h
  exact h
theorem mem_lots_full (t : Tr) (row : List Int) (w : t.wf) (hp : t.leaves.Perm row) (hn : row ≠ []) : 0 < (lots t row).length := by
  have g : t.goes row = true := goes_full t row w fun x hx => hp.mem_iff.mp hx
  have key : ∀ (r lot : List Int), r ≠ [] → t.goes (lot ++ r) = true → 0 < (lexg (fun s => t.goes s) lot r).length := by
    intro r
    induction r with
    | nil => intro lot h; exact absurd rfl h
    | cons b r ih =>
      intro lot _ hg
      rw [lexg_cons, List.length_append]
      unfold blk
      by_cases e : r = []
      · subst e
        have hg' : (fun s => t.goes s) (lot ++ [b]) = true := hg
        rw [if_pos hg']
        simp only [List.length_append, List.length_singleton]
        omega
      · have := ih (lot ++ [b]) e (by simpa using hg)
        simp only [List.length_append]
        omega
  exact key row [] hn g
/-- sorted by the order of tuples, they are that row -/
theorem sorted_is {l : List (List Int)} {t : Tr} {row : List Int} (hl : l.Perm (lots t row)) (hs : l.Pairwise (fun a b => a ≤ b)) (hr : row.Pairwise (· < ·)) : l = lots t row := by
  refine List.Perm.eq_of_pairwise (le := fun a b => a ≤ b) (fun a b _ _ h1 h2 => List.le_antisymm h1 h2) hs ?_ hl
  exact (lots_sorted t row hr).imp fun h => List.le_of_lt h

/-! ### counting the lots with a beginning -/
/-- r is what is open of the row: behind the lot and what is left out -/
structure Cut (row lot never r : List Int) : Prop where
  ex : ∃ pre, row = pre ++ r ∧ (∀ x ∈ pre, (x ∈ lot ∧ x ∉ never) ∨ (x ∉ lot ∧ x ∈ never)) ∧ pre.filter (fun x => decide (x ∈ lot)) = lot ∧ (∀ x ∈ never, x ∈ pre)
theorem Cut.start (row : List Int) : Cut row [] [] row := ⟨⟨[], rfl, fun x h => absurd h List.not_mem_nil, rfl, fun x h => absurd h List.not_mem_nil⟩⟩
theorem nodup_of {row : List Int} (h : row.Pairwise (· < ·)) : row.Nodup := h.imp fun h => Int.ne_of_lt h
theorem Cut.take {row lot never r : List Int} {b : Int} (hr : row.Pairwise (· < ·)) (c : Cut row lot never (b :: r)) : Cut row (lot ++ [b]) never r := by
  obtain ⟨pre, e, h1, h2, h3⟩ := c.ex
  have hn := nodup_of hr
  rw [e] at hn
  have hb : b ∉ pre := fun h => (List.nodup_append.mp hn).2.2 b h b List.mem_cons_self rfl
  have nb : b ∉ never := fun h => hb (h3 b h)
  refine ⟨pre ++ [b], by rw [e]; simp, fun x hx => ?_, ?_, fun x hx => List.mem_append_left _ (h3 x hx)⟩
  · rcases List.mem_append.mp hx with hx | hx
    · have ne : x ≠ b := fun z => hb (z ▸ hx)
      have := h1 x hx
      simp only [List.mem_append, List.mem_singleton, ne, or_false]
      exact this
    · have ex : x = b := by simpa using hx
      subst ex
      exact .inl ⟨by simp, nb⟩
  · rw [List.filter_append]
    have e1 : pre.filter (fun x => decide (x ∈ lot ++ [b])) = pre.filter (fun x => decide (x ∈ lot)) := by
      refine List.filter_congr fun x hx => ?_
      have ne : x ≠ b := fun z => hb (z ▸ hx)
      simp [ne]
    rw [e1, h2]
    simp
theorem Cut.skip {row lot never r : List Int} {b : Int} (hr : row.Pairwise (· < ·)) (c : Cut row lot never (b :: r)) : Cut row lot (never ++ [b]) r := by
  obtain ⟨pre, e, h1, h2, h3⟩ := c.ex
  have hn := nodup_of hr
  rw [e] at hn
  have hb : b ∉ pre := fun h => (List.nodup_append.mp hn).2.2 b h b List.mem_cons_self rfl
  have lb : b ∉ lot := fun h => by
    rw [← h2] at h
    exact hb (List.mem_filter.mp h).1
  refine ⟨pre ++ [b], by rw [e]; simp, fun x hx => ?_, ?_, fun x hx => ?_⟩
  · rcases List.mem_append.mp hx with hx | hx
    · have ne : x ≠ b := fun z => hb (z ▸ hx)
      have := h1 x hx
      simp only [List.mem_append, List.mem_singleton, ne, or_false]
      exact this
    · have ex : x = b := by simpa using hx
      subst ex
      exact .inr ⟨lb, by simp⟩
  · rw [List.filter_append, h2]
    simp [lb]
  · rcases List.mem_append.mp hx with hx | hx
    · exact List.mem_append_left _ (h3 x hx)
    · exact List.mem_append_right _ hx
/-- the count of the lots that begin so -/
theorem Cut.many {row lot never r : List Int} {t : Tr} (w : t.wf) (hp : t.leaves.Perm row) (hr : row.Pairwise (· < ·)) (c : Cut row lot never r) : (t.sides lot never).1 = ((blk (fun s => t.goes s) lot r).length : Int) := by
  have hn := nodup_of hr
  rw [many_row lot never t row w hp hn, blk_length]
  obtain ⟨pre, e, h1, h2, h3⟩ := c.ex
  rw [e] at hn ⊢
  have dis := (List.nodup_append.mp hn).2.2
  rw [cnt_split lot never r (fun x hx => ⟨fun h => ?_, fun h => dis x (h3 x h) x hx rfl⟩) pre h1, h2]
  rw [← h2] at h
  exact dis x (List.mem_filter.mp h).1 x hx rfl
theorem Cut.sub {row lot never r : List Int} (c : Cut row lot never r) : ∀ x ∈ lot, x ∈ row := by
  obtain ⟨pre, e, h1, h2, h3⟩ := c.ex
  intro x hx
  rw [← h2] at hx
  rw [e]
  exact List.mem_append_left _ (List.mem_filter.mp hx).1
theorem Cut.asc {row lot never r : List Int} (hr : row.Pairwise (· < ·)) (c : Cut row lot never r) : lot.Pairwise (· < ·) := by
  obtain ⟨pre, e, h1, h2, h3⟩ := c.ex
  rw [e] at hr
  rw [← h2]
  exact (List.pairwise_append.mp hr).1.filter _

/-! ### going_at, going_number: a step -/
section
variable {g : List Int → Bool} {lot r : List Int} {b : Int}
theorem at_skip {k : Nat} (h : (blk g (lot ++ [b]) r).length ≤ k) : (lexg g lot (b :: r))[k]? = (lexg g lot r)[k - (blk g (lot ++ [b]) r).length]? := by
  rw [lexg_cons, List.getElem?_append_right h]
theorem at_in {k : Nat} (h : k < (blk g (lot ++ [b]) r).length) : (lexg g lot (b :: r))[k]? = (blk g (lot ++ [b]) r)[k]? := by
  rw [lexg_cons, List.getElem?_append_left h]
theorem blk_go (h : g lot = true) : blk g lot r = lot :: lexg g lot r := by
  unfold blk
  rw [h]
  rfl
theorem blk_no (h : g lot = false) : blk g lot r = lexg g lot r := by
  unfold blk
  rw [h]
  rfl
end
/-- l stands in G from place f on -/
def From (G : List (List Int)) (f : Nat) (l : List (List Int)) : Prop := ∀ (j : Nat) (x : List Int), l[j]? = some x → G[f + j]? = some x
theorem From.left {G a b : List (List Int)} {f : Nat} (h : From G f (a ++ b)) : From G f a := fun j x e => h j x (by
  have hj := (List.getElem?_eq_some_iff.mp e).1
  rw [List.getElem?_append_left hj]
  exact e)
theorem From.right {G a b : List (List Int)} {f : Nat} (h : From G f (a ++ b)) : From G (f + a.length) b := fun j x e => by
  rw [Nat.add_assoc]
  refine h _ x ?_
  rw [List.getElem?_append_right (by omega)]
  rw [show a.length + j - a.length = j by omega]
  exact e
theorem From.start (G : List (List Int)) : From G 0 G := fun j x e => by
  rw [Nat.zero_add]
  exact e
theorem place_one {G : List (List Int)} (hG : G.Pairwise (· < ·)) {i j : Nat} {x : List Int} (hi : G[i]? = some x) (hj : G[j]? = some x) : i = j := by
  obtain ⟨h1, e1⟩ := List.getElem?_eq_some_iff.mp hi
  obtain ⟨h2, e2⟩ := List.getElem?_eq_some_iff.mp hj
  have hn : G.Nodup := List.Pairwise.imp (fun {a b} (h : a < b) (e : a = b) => by
    rw [e] at h
    exact List.lt_irrefl _ h) hG
  exact (List.getElem_inj hn).mp (e1.trans e2.symm)
end K19

set_option Elab.async false
set_option linter.all false
set_option maxRecDepth 100000
set_option maxHeartbeats 4000000
/-! Own exceptions made without arguments, whose start calls the base's start by the base's name. -/
namespace K19
open PySem PySem.Spec PyProof.Rows L2

/-- what the text says of the base class at T, its start the one of ValueError -/
structure BaseTxt (K : PySem.W.Frag) (mg : Str → Option Value) (T : Addr) (mc : Value) : Prop where
  gT : mg "TripError" = some (.ref T)
  rd : PySem.W.readsIn K T mc = true
  ga : PySem.W.specialIn K (.ref T) "__getattribute__" = some (some (.builtin "type.__getattribute__"))
  ini : PySem.W.findCls K (.ref T) mc "__init__" = some (.val (.builtin "ValueError.__init__"))

section
variable {X : Cx}
theorem pe_baseIni {pl : Sem Bool} {T : Addr} {mc : Value} {e : Expr} {es : List Expr} {ta : TA} {p1 p2 pos : Pos} (B : BaseTxt X.K X.mg T mc) (hg : Gl X "TripError") (ha : PA X (e :: es) ta)
    (hc : eval (.Call (.Attribute (.Name "TripError" p1) "__init__" p2) (e :: es) [] pos) X.env = (do
        let ov ← eval (.Name "TripError" p1) X.env
        standAt p2.atName
        let (f, first) ← holding [ov] (getMethod ov "__init__" pl)
        callWith pos f first (backTo pos (starEach (e :: es) X.env)) (backToKw pos (keywordEach [] X.env))) := by rfl)
    (he : starEach (e :: es) X.env = (false, eval e X.env) :: starEach es X.env := by rfl) (hpl : (backTo pos (starEach es X.env)).any (·.1) = false := by rfl) :
    PE X (.Call (.Attribute (.Name "TripError" p1) "__init__" p2) (e :: es) [] pos) (tVeI X.K ta) := by
  constructor
  intro pins s σ H Q I h
  refine PySem.W.methodCall_KW (ld_glob I hg B.gT ?_ (by decide)) hc
  refine PySem.W.method_cls I.kIn B.ga (PySem.W.cls_value I.kIn B.rd B.ini rfl ?_)
  refine PyProof.Rows.callWith_method1 (first := []) (thn (ha.run pos pins _ σ H _ (I.tok _) h) fun us s1 w1 => ?_) he hpl
  obtain ⟨vs, H1, I1, r1, a, C, ws, ev, hl, O, ea, q⟩ := w1
  subst ev
  cases r1 with
  | @cons _ u0 _ ur ra rest =>
    obtain rfl : u0 = Value.ref a := ra
    have hn : ur.length ≤ sizeLine := by
      have l1 := Paired.length rest
      rw [sizeLine_eq]
      omega
    exact oinit_ok O I1 ea hn fun s' J => ⟨.non, H1, J, rfl, q⟩

/-- behind the start: the exception is let go; it has no dict of its own -/
theorem made_bare {pins : List (Addr × Obj)} {σ : L2.St} {H1 : Hp} {Q : XK} {hp hp2 h2 : Heap} {g1 g2 : Array GenState} {d1 d2 : Drawn} {t1 t2 : Nat} {os1 os2 : OsState} {a C : Addr} (R : Raises X (.ref C)) (I1 : Inv X pins σ H1 ⟨hp, g1, d1, t1, os1⟩)
    (ha : hp.objs.size ≤ a) (k : ∀ b o, hp.get? b = some o → hp2.get? b = some o) (un : Un (frs X.stack) [] (upd H1 a (exo a C none)) (upd H1 a (exo a C none)) hp2 h2) (hok : HOk X.prog X.w (upd H1 a (exo a C none)) h2)
    (ho : os2 = os1) (hb : AllBare g2) (q : Q (.ref C) none H1) : MkP X pins σ Q (.ref a) ⟨h2, g2, d2, t2, os2⟩ := by
  have hn : H1 a = none := I1.hok.fresh ha
  obtain ⟨t0, hoe⟩ := exo_at hok (upd_same (H := H1) (a := a) (o := exo a C none))
  obtain ⟨G, y1, y2⟩ := restrict h2 fun b => decide (b ≠ a)
  have gk : ∀ b, b ≠ a → G.get? b = h2.get? b := fun b n => y1 b (decide_eq_true n)
  have ge : G.get? a = none := y2 a (by simp)
  have away : ∀ {b : Addr} {o : Obj}, hp.get? b = some o → b ≠ a := fun z => Nat.ne_of_lt (Nat.lt_of_lt_of_le (Heap.lt_size z) ha)
  have same : ∀ {b : Addr}, b ≠ a → upd H1 a (exo a C none) b = H1 b := fun n => upd_ne n
  have off : ∀ {b : Addr} {o : HO}, H1 b = some o → b ≠ a := fun z => ne_of_none z hn
  have U : Un (frs X.stack) [] H1 H1 hp G :=
    { keep := fun b o z n f x => (gk b (away z)).trans (un.keep b o (k b o z) ((same (away z)).trans n) f x)
      slot := fun b o z n f x => by
        obtain ⟨sl, e⟩ := un.slot b o (k b o z) ((same (away z)).trans n) f x
        exact ⟨sl, (gk b (away z)).trans e⟩
      free := fun b o z n x => n
      there := fun b o z x => by
        obtain ⟨o', e⟩ := un.there b o (k b o z) x
        exact ⟨o', (gk b (away z)).trans e⟩
      tups := fun b xs z => z
      frzs := fun b o v z => z
      tbls := fun b ps z => ⟨#[], by rw [z]; simp⟩ }
  have hok3 : HOk X.prog X.w H1 G := fun b o z => by
    have nb := off z
    have z2 : upd H1 a (exo a C none) b = some o := (same nb).trans z
    refine (hok b o z2).stay (fun c v hc y => ?_) (fun c hc => ?_) fun c xs hc => ?_
    · have nc : c ≠ a := by
        rcases hc with hc | hc
        · rw [hc]; exact nb
        · intro e
          rw [e, upd_same] at hc
          exact exo_own (Option.some.inj hc)
      rw [gk c nc]
      exact y
    · have nc : c ≠ a := by
        intro e
        rw [e, upd_same] at hc
        exact exo_own (Option.some.inj hc)
      exact (same nc).symm.trans hc
    · have nc : c ≠ a := by
        intro e
        rw [e, upd_same] at hc
        exact exo_tup (Option.some.inj hc)
      exact (same nc).symm.trans hc
  have J : Inv X pins σ H1 ⟨G, g2, d2, t2, os2⟩ := I1.call' (ch := []) ho U hok3 hb fun b z => absurd z (by simp)
  refine ⟨a, _, _, ⟨G, g2, d2, t2, os2⟩, H1, .ref C, none, rfl, J, fun b o z => ?_, ge, hoe, ⟨rfl, rfl⟩, rfl, rfl, hn, rfl, hb, R, q⟩
  have nb : b ≠ a := fun e => by
    rw [e, ge] at z
    cases z
  exact (gk b nb).symm.trans z

/-- what the start of such a class keeps -/
def spIni (C : Addr) : Sp := fun vs H Q _ => ∃ a, vs = [.ref a] ∧ H a = some (exo a C none) ∧ Q .non H
theorem pmk_bare {CX : CXT} {x : Str} {C fI : Addr} {k : Nat} {fd : FuncData} {ps : List Str} {p pos : Pos} (T : OexC X.K C) (iC : PySem.W.findIn X.K (.ref C) "__init__" = some (some (.ref fI))) (tI : PySem.W.typeIn X.K (.ref fI) = some (.type "function"))
    (F1 : FnOk X.prog X.w X.K X.mg X.base CX k fI fd ps (spIni C)) (hr : Room (k + 1) X.A) (hb : Binds X.K fd ps []) (hx : Passes CX X (fun _ _ _ => False)) (hg : Gl X x) (hm : X.mg x = some (.ref C))
    (hdb : (x == ("__debug__" : Str)) = false := by decide) : PMk X (.Call (.Name x p) [] [] pos) (fun _ H Q => Q (.ref C) none H) := by
  intro pins s σ H Q I h
  obtain ⟨nm, q, N, bs, bm, sn, sub, ab, col, dd, k0, k1, k2, k3, k5, hC, hbm⟩ := T.cls
  refine wpAny_Call_Name_kw (ld_glob I hg hm ?_ hdb)
  refine PySem.W.callWith_K0 I.kIn T.kC ?_
  show wpAny _ _ (call (.ref C) []) _ _ _
  obtain ⟨hp, g, dr, tk, os⟩ := s
  have above : hp.objs.size ≤ hp.objs.size + 1 := Nat.le_succ _
  have kk : ∀ b o, hp.get? b = some o → ((hp.push (PySem.W.kdv_tup [])).push (PySem.HandSPX.excO C hp.objs.size)).get? b = some o := fun b o e => Heap.get?_push_of_some _ (Heap.get?_push_of_some _ e)
  have hget : ((hp.push (PySem.W.kdv_tup [])).push (PySem.HandSPX.excO C hp.objs.size)).get? (hp.objs.size + 1) = some (PySem.HandSPX.excO C hp.objs.size) := by heap_get
  have I2 := I.laid (t' := tk) (a := hp.objs.size + 1) (o := exo (hp.objs.size + 1) C none) (h' := (hp.push (PySem.W.kdv_tup [])).push (PySem.HandSPX.excO C hp.objs.size)) kk above (exo_ok hget)
  have sp0 : spIni C [.ref (hp.objs.size + 1)] (upd H (hp.objs.size + 1) (exo (hp.objs.size + 1) C none)) (fun v H2 => v = .non ∧ H2 = upd H (hp.objs.size + 1) (exo (hp.objs.size + 1) C none)) (fun _ _ _ => False) := ⟨_, rfl, upd_same, rfl, rfl⟩
  have hl : ([Value.ref (hp.objs.size + 1)] ++ []).length = ps.length := (F1.len _ _ _ _ sp0)
  refine wpAny_call (PySem.HandSPX.call_own (rest := []) F.excBase_ValueError (fun Y => PySem.HandSPX.refsVE_contains Y bm hbm) (I.kIn _ _ hC) (PySem.W.looks_findIn I.kIn iC) (fun self => PySem.W.bind_fn I.kIn self tI) (Nat.zero_le _)
    (codeAny_mono (F1.run _ X.stack _ _ ⟨[Value.ref (hp.objs.size + 1)], []⟩ [Value.ref (hp.objs.size + 1)] [.ref (hp.objs.size + 1)] _ (fun _ _ _ => False) (hr.make C [] []) (I2.env0.make C [] []) (hb _ [Value.ref (hp.objs.size + 1)] I2.kIn hl) (.cons rfl .nil) sp0) fun r s' hq => ?_))
  cases r with
  | error er => exact hx pins σ _ _ er s' I2 hq
  | ok fl =>
    cases fl with
    | ret u =>
      obtain ⟨v, H2, os2, bare2, un2, hok2, rv, ev, eH⟩ := hq
      subst ev
      subst eH
      obtain ⟨h2, g2, d2, t2, os'⟩ := s'
      exact ⟨rv, made_bare (raises_own T.exC T.tyC) I above kk un2 hok2 os2 bare2 h⟩
    | next => exact False.elim hq
    | brk => exact False.elim hq
    | cont => exact False.elim hq
end
end K19

/-! Further rules: enumerate over a tuple, repr of data, sorted of rows of numbers, calls by keywords alone. -/
namespace K19
open PySem PySem.Spec PyProof.Rows L2

/-! ### enumerate(t), t a tuple -/
set_option maxHeartbeats 2000000 in
theorem enum_made {v : Value} {o : Obj} {P : Heap → Prop} (B : Begins v o P) :
    Meets (Builtin.«enumerate.__new__» ⟨[.type "enumerate", v], []⟩) (fun _ R s => P s.heap ∧
      R (.ok (.ret (.ref (s.heap.objs.size + 1)))) { s with heap := (s.heap.push o).push { cls := .type "enumerate", data := .fields #[.none, .bool false, .ref s.heap.objs.size, rawInt 0, .none, .none] } }) := by
  refine .of_wp fun prog w A R s h => ?_
  obtain ⟨hp, g, d, tk, os⟩ := s
  obtain ⟨start, h⟩ := h
  have own := sub_enumerate
  have goes : ∀ {A' : Around} {E : Value → Shared → Prop} {Q : Value → Shared → Prop}, Q (.ref hp.objs.size) ⟨hp.push o, g, d, tk, os⟩ → wpAny (model prog w) A' (pyIter v) Q E ⟨hp, g, d, tk, os⟩ :=
    fun q => B.iter prog w _ _ ⟨hp, g, d, tk, os⟩ _ start q
  have sz : (hp.push o).objs.size = hp.objs.size + 1 := Heap.size_push ..
  rw [show (⟨hp, g, d, tk, os⟩ : Shared).heap.objs.size + 1 = (hp.push o).objs.size from sz.symm] at h
  wp_walk using goes
  refine wpAny_stack_any fun st => wpAny_pure ?_
  split
  · rename_i c _ _ _ _ _
    cases (c == Value.type "enumerate") <;> (wp_walk using goes; exact ⟨_, rfl, h⟩)
  · wp_walk using goes
    exact ⟨_, rfl, h⟩
theorem call_enum {prog : Program} {w : World} {A : Around} {E : Value → Shared → Prop} {s : Shared} {v : Value} {o : Obj} {P : Heap → Prop} {Q : Value → Shared → Prop} (B : Begins v o P) (start : P s.heap)
    (h : ∀ h', IsEnum h' (s.heap.objs.size + 1) s.heap.objs.size 0 .none → h'.get? s.heap.objs.size = some o → (∀ b u, s.heap.get? b = some u → h'.get? b = some u) → Q (.ref (s.heap.objs.size + 1)) { s with heap := h' }) :
    wpAny (model prog w) A (call (.type "enumerate") [v]) Q E s := by
  refine callType_new F.called_enumerate (by decide) (F.typeCall_enumerate_1 _) (F.newCall_enumerate_1 _) (fun obj => F.args_object_init_2 obj _) F.entry_enumerate_new (enum_made B) ⟨start, ?_⟩
  have sz : (s.heap.push o).objs.size = s.heap.objs.size + 1 := Heap.size_push ..
  have en := Heap.get?_push_size (s.heap.push o) (o := { cls := .type "enumerate", data := .fields #[.none, .bool false, .ref s.heap.objs.size, rawInt 0, .none, .none] }) rfl
  rw [sz] at en
  exact ⟨⟨_, en, rfl⟩, h _ en (Heap.get?_push_of_some _ (Heap.get?_push_size _ B.free)) fun b u x => Heap.get?_push_of_some _ (Heap.get?_push_of_some _ x)⟩
/-- the turns over the tuple at a: new pairs -/
def IteT (K : PySem.W.Frag) (a : Addr) : It :=
  ⟨fun i H => ∃ (xs : List V) (x : V), SqT K H a xs ∧ xs[i]? = some x,
   fun i H v H' => ∃ T x, v = .ref T ∧ H T = none ∧ H' = upd H T (.tup [.int (i : Nat), x]) ∧ ∀ xs, SqT K H a xs → xs[i]? = some x,
   fun i H => ∃ xs : List V, SqT K H a xs ∧ xs.length = i⟩
theorem turn_enumT {P : Program} {w : World} {K : PySem.W.Frag} {elts : List Expr} {kk : Nat} {tpos : Pos} (a e it : Addr) :
    Turn P w K (.Tuple elts kk tpos) (IteT K a) [e, it] e (fun i h => (∃ old, IsEnum h e it (0 + ((i : Nat) : Int)) old) ∧ h.IsTupleIter it a i ∧ e ≠ it) := by
  have walk : ∀ (A : Around), A.handled = none → ∀ its : Array Value, a ≠ e → a ≠ it → e ≠ it → GoesN P w A (.Tuple elts kk tpos) e (e :: [it, a]) [e, it] its.size
      (fun i h₀ v h => ∃ T t x, v = .ref T ∧ h₀.objs.size ≤ T ∧ its[i]? = some x ∧ h.IsTuple T #[.int (0 + (i : Int)) t, x]) (fun i h => (∃ old, IsEnum h e it (0 + (i : Int)) old) ∧ (h.IsTupleIter it a i ∧ h.IsTuple a its)) :=
    fun A hh its n1 n2 n3 => GoesN.enumFrom 0 (Draws.tuple (A := A.in1) hh it a n2 its) e n3 (by simp only [List.mem_cons, List.not_mem_nil, or_false, not_or]; exact ⟨n3, Ne.symm n1⟩) (by simp)
  have apart : ∀ {h : Heap} {i : Nat} {its : Array Value}, (∃ old, IsEnum h e it (0 + ((i : Nat) : Int)) old) → h.IsTupleIter it a i → h.IsTuple a its → a ≠ e ∧ a ≠ it := by
    intro h i its h1 h2 h3
    obtain ⟨old, q1⟩ := h1
    obtain ⟨o2, q2, c2, _⟩ := h2
    obtain ⟨o3, q3, c3, _⟩ := h3
    refine ⟨fun z => ?_, fun z => ?_⟩
    · subst z
      rw [show h.get? a = some _ from q1] at q3
      cases q3
      exact absurd (Value.type.inj c3) (by decide)
    · subst z
      rw [q2] at q3
      cases q3
      rw [c2] at c3
      exact absurd (Value.type.inj c3) (by decide)
  refine ⟨by simp, fun i h st b hb => ?_, fun i h h' st k => ?_, ?_, ?_, fun A i s Q E st h => ?_⟩
  · obtain ⟨⟨old, q1⟩, ⟨o2, q2, c2, d2⟩, _⟩ := st
    rcases (show b = e ∨ b = it by simpa using hb) with z | z
    · rw [z]; exact ⟨_, q1, fun v q => nomatch q⟩
    · rw [z]; exact ⟨o2, q2, fun v q => by rw [d2] at q; cases q⟩
  · obtain ⟨⟨old, q1⟩, q2, n⟩ := st
    exact ⟨⟨old, k e (by simp) _ q1⟩, q2.at fun o q => k it (by simp) o q, n⟩
  · intro X hP hw hK hc i pins s σ H E I hf st hg
    subst hP hw hK
    obtain ⟨q1, q2, n⟩ := st
    obtain ⟨xs, x, hq, hx⟩ := hg
    obtain ⟨its, rv, p, hz⟩ := I.tuple hq
    obtain ⟨u, hu, ru⟩ := rv.get hx
    have p' : s.heap.IsTuple a its.toArray := p
    obtain ⟨n1, n2⟩ := apart q1 q2 p'
    have hi : i < its.toArray.size := by
      have l := (List.getElem?_eq_some_iff.mp hu).1
      simpa using l
    refine wpAny_mono ((walk X.A (I.ok.hd hc) its.toArray n1 n2 n).goes i s (fun v s2 => ∃ x H', Inv X pins σ H' s2 ∧ RelV x v ∧ (IteT X.K a).yld i H x H' ∧ ((∃ old, IsEnum s2.heap e it (0 + ((i + 1 : Nat) : Int)) old) ∧ s2.heap.IsTupleIter it a (i + 1) ∧ e ≠ it) ∧ ∀ b ∈ [e, it], H' b = none) E hi ⟨q1, q2, p'⟩ ?_) (fun _ _ z => z) fun _ _ z => z
    intro v h' tk y st2 keep _
    obtain ⟨T, t, x2, rfl, hT, hx2, ht⟩ := y
    have ex : x2 = u := by
      have l1 : its[i]? = some x2 := by simpa using hx2
      rw [hu] at l1
      exact (Option.some.inj l1).symm
    subst ex
    have new : ObjOk X.prog X.w (upd H T (.tup [.int (i : Nat), x])) h' T (.tup [.int (i : Nat), x]) :=
      ⟨by show 2 ≤ sizeLine; decide, [.int (0 + (i : Int)) t, x2], .cons ⟨t, by rw [Int.zero_add]⟩ (.cons ru .nil), ht⟩
    have J := I.turnedNew (t' := tk) (ch := [e, it]) (fun b o hb q => keep b o hb q) hf hT new
    refine ⟨.ref T, _, J, rfl, ⟨T, x, rfl, I.hok.fresh hT, rfl, fun ys hy => ?_⟩, ⟨st2.1, st2.2.1, n⟩, fun b hb => ?_⟩
    · rw [I.tuple_inj hy hq]
      exact hx
    · have lt : b < s.heap.objs.size := by
        rcases (show b = e ∨ b = it by simpa using hb) with z | z
        · rw [z]; obtain ⟨_, q⟩ := q1; exact Heap.lt_size q
        · rw [z]; obtain ⟨_, q, _⟩ := q2; exact Heap.lt_size q
      rw [upd_ne (Nat.ne_of_lt (Nat.lt_of_lt_of_le lt hT))]
      exact (hf b hb).1
  · intro X hP hw hK hc i pins s σ H E I hf st hg
    subst hP hw hK
    obtain ⟨q1, q2, n⟩ := st
    obtain ⟨xs, hq, hx⟩ := hg
    obtain ⟨its, rv, p, hz⟩ := I.tuple hq
    have p' : s.heap.IsTuple a its.toArray := p
    obtain ⟨n1, n2⟩ := apart q1 q2 p'
    have l := rv.length
    obtain ⟨old, q1'⟩ := id q1
    have ei : its.toArray.size = i := by
      rw [List.size_toArray, ← l]
      exact hx
    exact wpAny_pyNext_enum_endD (Draws.tuple (A := X.A.in1) (I.ok.hd hc) it a n2 (its.toArray)) q1' (by
      rw [ei]
      exact ⟨q2, p'⟩) fun h' hk => ⟨rfl, I.turnedL (t' := s.toks) (ch := [e, it]) (fun b o hb q => hk b o (fun z => hb (by simp [z])) q) hf⟩
  · obtain ⟨⟨old, q1⟩, _⟩ := st
    exact wpAny_pyIter_enum q1 h
def iEnumT (K : PySem.W.Frag) (ta : TA) : TI := fun σ H R => ta σ H fun vs H1 => ∃ a xs, vs = [.ref a] ∧ SqT K H1 a xs ∧ R (IteT K a) H1
theorem pi_enumT {X : Cx} {e : Expr} {ta : TA} {p pos tpos : Pos} {elts : List Expr} {kk : Nat} (hg : Gl X "enumerate") (hm : X.mg "enumerate" = none) (ha : PA X [e] ta) (hs : starEach [e] X.env = [(false, eval e X.env)] := by rfl) :
    PI X (.Tuple elts kk tpos) (.Call (.Name "enumerate" p) [e] [] pos) (iEnumT X.K ta) := by
  constructor
  intro pins s σ H R I h
  refine Call_ (ld_blt I hg hm boot_enumerate (PyProof.Rows.callWith_type1 (thn (ha.run pos pins s σ H _ I h) fun us s1 w1 => ?_) hs rfl))
  obtain ⟨vs, H1, I1, r1, a, xs, rfl, hq, q⟩ := w1
  rw [Vals.ref1 r1]
  obtain ⟨its, rv, p', hz⟩ := I1.tuple hq
  have pt : s1.heap.IsTuple a its.toArray := p'
  refine call_enum (begins_tuple a its.toArray) pt fun h' he hit hk => wpAny_pyIter_enum he ?_
  have I2 : Inv X pins σ H1 { s1 with heap := h' } := I1.kept (t' := s1.toks) hk
  refine ⟨s1.heap.objs.size + 1, [s1.heap.objs.size + 1, s1.heap.objs.size], _, _, H1, rfl, I2, turn_enumT a (s1.heap.objs.size + 1) s1.heap.objs.size, ⟨⟨.none, he⟩, ⟨_, hit, rfl, rfl⟩, Nat.succ_ne_self _⟩, fun b hb => ?_, q⟩
  have le : s1.heap.objs.size ≤ b := by
    rcases (show b = s1.heap.objs.size + 1 ∨ b = s1.heap.objs.size by simpa using hb) with z | z
    · rw [z]; exact Nat.le_add_right _ _
    · rw [z]; exact Nat.le_refl _
  exact I1.fpOk le (I1.hok.fresh le)

/-! ### repr of data; sorted of rows -/
section
variable {X : Cx}
def rRepr (K : PySem.W.Frag) : List V → Hp → VK → Prop := fun vs H Q => ∃ (x : V) (a : Addr) (d : PyData), x = .ref a ∧ vs = [x] ∧ Dp K H x d ∧ d.showable = true ∧ d.hasDict = false ∧ d.depth ≤ 60 ∧ d.shown.length ≤ sizeLine ∧ Q (.str d.shown) H
theorem call_repr_data (hg : X.A.guards = some []) (hu : X.A.units + 64 < cLine) : CallR X (.builtin "repr") (rRepr X.K) := by
  intro pins s σ H vs us Q I r h
  obtain ⟨x, a, d, rfl, rfl, hd, hs, hn, hz, hl, q⟩ := h
  rw [Vals.ref1 r]
  obtain ⟨as, rd⟩ := Dp.reads I d _ _ hd (show RelV (.ref a) (Value.ref a) from rfl)
  exact repr_of_reads' rd hs (PyData.noDict_hsm hn) hg (by omega) (fun _ _ e => e) (fun h' u tk hk => ⟨.str d.shown, H, I.kept (t' := tk) hk, ⟨u, rfl⟩, q⟩) hl
/-- the rows by the order of tuples -/
abbrev encR (b : Addr × List Int) : PyData := .tuple (b.2.map .int)
theorem encR_le : PySem.W.dataLe false encR = fun a b => decide (a.2 ≤ b.2) := by
  rw [← PySem.W.dataLe_rows (fun b : Addr × List Int => b.2), PySem.W.dataLe_eq, PySem.W.dataLe_eq]
  funext a b
  show (!PySem.W.dataLt (encR b) (encR a)) = (!PySem.W.dataLt (.list (b.2.map .int)) (.list (a.2.map .int)))
  rw [PySem.W.dataLt_tuple, PySem.W.dataLt_list]
theorem encR_alike (bs : List (Addr × List Int)) : PySem.W.AllAlike (bs.map encR) := PySem.W.AllAlike.of fun a b => by
  show PySem.W.alike (.tuple _) (.tuple _) = true
  simp only [PySem.W.alike]
  exact PySem.W.alike_ints _ _
theorem encR_depth (b : Addr × List Int) : (encR b).depth ≤ 1 := by
  show PyData.depth (.tuple _) ≤ 1
  simp only [PyData.depth]
  rw [PySem.W.depth_ints]
  exact Nat.le_refl _
theorem reads_ints {h : Heap} : ∀ {us : List Value} {ns : List Int}, Vals (ns.map V.int) us → ∃ as, ReadsAll h us (ns.map .int) as
  | _, [], r => by
    cases r
    exact ⟨_, ReadsAll.nil⟩
  | _, n :: ns, r => by
    cases r with
    | cons r1 r2 =>
      obtain ⟨t, rfl⟩ := r1
      obtain ⟨as, q⟩ := reads_ints r2
      exact ⟨_, ReadsAll.cons (Reads.int n t) q⟩
def rSortRows (K : PySem.W.Frag) : List V → Hp → VK → Prop := fun vs H Q => ∃ (a : Addr) (bs : List (Addr × List Int)), vs = [.ref a] ∧ SqL K H a (bs.map fun b => V.ref b.1) ∧ (∀ b ∈ bs, SqT K H b.1 (b.2.map V.int) ∧ b.2 ≠ []) ∧
  ∀ (cs : List (Addr × List Int)) (p : Addr), cs.Perm bs → cs.Pairwise (fun x y => x.2 ≤ y.2) → H p = none → Q (.ref p) (upd H p (.lst (cs.map fun b => V.ref b.1)))
theorem rows_out : ∀ {out : List Value} {cs : List (Addr × List Int)}, PySem.W.EachIs (fun v (b : Addr × List Int) => v = Value.ref b.1) out cs → Vals (cs.map fun b => V.ref b.1) out
  | _, _, .nil => .nil
  | _, _, .cons h t => .cons h (rows_out t)
theorem rows_in : ∀ {its : List Value} {bs : List (Addr × List Int)}, Vals (bs.map fun b => V.ref b.1) its → PySem.W.EachIs (fun v (b : Addr × List Int) => v = Value.ref b.1) its bs
  | _, [], r => by
    cases r
    exact .nil
  | _, b :: bs, r => by
    cases r with
    | cons r1 r2 => exact .cons r1 (rows_in r2)
theorem each_both {α β : Type} {R S : α → β → Prop} : ∀ {l : List α} {m : List β}, PySem.W.EachIs R l m → (∀ a b, b ∈ m → R a b → S a b) → PySem.W.EachIs S l m
  | _, _, .nil, _ => .nil
  | _, _, .cons h t, k => .cons (k _ _ List.mem_cons_self h) (each_both t fun a b hb => k a b (List.mem_cons_of_mem _ hb))
theorem cr_sortedRows (hu : X.A.units + 64 < cLine) : CallR X (.builtin "sorted") (rSortRows X.K) := by
  intro pins s σ H vs us Q I r h
  obtain ⟨a, bs, rfl, hs, hb, q⟩ := h
  obtain ⟨its, rv, hl, hz⟩ := I.list hs
  rw [Vals.ref1 r]
  have e1 := rows_in rv
  rw [List.length_map] at hz
  refine PySem.W.sorted_data (bs := bs) (enc := encR) hl.isList e1 (each_both e1 fun v b hm e => ?_) (encR_alike bs) (.inl fun d hd => ?_) hz (fun b hm => ?_) fun out hlen ho => ?_
  · subst e
    obtain ⟨us, ru, ⟨o, ho, hc, n, hd⟩, _⟩ := I.tuple (hb b hm).1
    obtain ⟨as, ra⟩ := reads_ints (h := s.heap) ru
    exact ⟨_, Reads.tuple ho hc hd (by simpa using ra)⟩
  · obtain ⟨b, hm, rfl⟩ := List.mem_map.mp hd
    obtain ⟨c, m⟩ := b
    cases m with
    | nil => exact absurd rfl (hb _ hm).2
    | cons x m => exact ⟨.int x, m.map .int, rfl⟩
  · have := encR_depth b
    omega
  · rw [encR_le] at ho
    obtain ⟨ep, he⟩ := PyProof.Rows.sortedAll_at s.heap its out.toArray
    have pm : (bs.mergeSort fun x y => decide (x.2 ≤ y.2)).Perm bs := List.mergeSort_perm _ _
    have sorted : (bs.mergeSort fun x y => decide (x.2 ≤ y.2)).Pairwise (fun x y => x.2 ≤ y.2) :=
      (List.pairwise_mergeSort (le := fun (x y : Addr × List Int) => decide (x.2 ≤ y.2)) (fun x y z h1 h2 => decide_eq_true (List.le_trans (of_decide_eq_true h1) (of_decide_eq_true h2))) (fun x y => by
        rcases List.le_total x.2 y.2 with z | z
        · simp [z]
        · simp [z]) bs).imp fun z => of_decide_eq_true z
    have len : ((bs.mergeSort fun x y => decide (x.2 ≤ y.2)).map fun b => V.ref b.1).length ≤ sizeLine := by
      rw [List.length_map, pm.length_eq]
      exact hz
    exact ⟨.ref _, upd H (s.heap.objs.size + 1) (.lst ((bs.mergeSort fun x y => decide (x.2 ≤ y.2)).map fun b => V.ref b.1)), I.laid (t' := s.toks) (fun _ _ => PyProof.Rows.sortedAll_old) (Nat.le_succ _) ⟨len, out, ep, rows_out ho, he⟩, rfl, q _ _ pm sorted (I.hok.fresh (Nat.le_succ _))⟩
end
end K19

namespace K19
open PySem PySem.Spec PyProof.Rows L2
/-! ### f(c = x, b = y, a = z): keywords alone, from the last parameter to the first -/
theorem vals_back : ∀ {xs : List V} {us : List Value}, Vals xs us → Vals xs.reverse us.reverse
  | _, _, .nil => .nil
  | _, _, .cons r t => by
    rw [List.reverse_cons, List.reverse_cons]
    exact (vals_back t).append (.cons r .nil)
section
variable {X : Cx} {CX : CXT} {k : Nat} {f : Addr} {fd : FuncData} {ps : List Str} {sp : Sp} {E : L2.St → XK} {x : Str} {p pos : Pos} {kws : List Keyword} {tk : TA}
def tCallBack (sp : Sp) (E : L2.St → XK) (tk : TA) : TE := fun σ H Q => tk σ H fun zs H2 => sp zs.reverse H2 Q (E σ)
theorem pe_callBack (G : FnOk X.prog X.w X.K X.mg X.base CX k f fd ps sp) (hr : Room k X.A) (hg : Gl X x) (hm : X.mg x = some (.ref f)) (hk : PySem.W.keepIn X.K (.ref f) = true)
    (hb : ∀ (s : Shared) (ws : List Value), ws.length = ps.length → BindsTo s fd ⟨[], ps.reverse.zip ws⟩ (ps.zip ws.reverse)) (hx : ∀ σ, PassesAt CX X σ (E σ)) (hkw : PK X kws tk)
    (hall : (backToKw pos (keywordEach kws X.env)).all (·.1.isSome) = true := by rfl) (hks : (backToKw pos (keywordEach kws X.env)).filterMap (·.1) = ps.reverse := by rfl) (hdb : (x == ("__debug__" : Str)) = false := by decide)
    (hpl : ((backTo pos (starEach [] X.env)).any (·.1) || (backToKw pos (keywordEach kws X.env)).any (·.1.isNone)) = false := by rfl) :
    PE X (.Call (.Name x p) [] kws pos) (tCallBack sp E tk) := by
  constructor
  intro pins s σ H Q I h
  refine wpAny_Call_Name_kw (ld_glob I hg hm ?_ hdb)
  refine PySem.W.callWith_KW0 (h₀ := X.base) I.ok.mod.kin hk hall (thn (hkw.run pos pins s σ H _ I h) fun ws s2 w2 => ?_) hpl
  obtain ⟨zs, H2, I2, rz, q⟩ := w2
  refine ⟨I2.kIn, ?_⟩
  rw [hks]
  have r2 := vals_back rz
  have hl : ws.length = ps.length := by
    rw [← rz.length, ← List.length_reverse, G.len _ _ _ _ q]
  refine wpAny_call (codeAny_mono (G.run X.A X.stack s2 H2 ⟨[], ps.reverse.zip ws⟩ ws.reverse zs.reverse Q (E σ) hr I2.env0 (hb s2 ws hl) r2 q) fun r s' hq => ?_)
  match r, hq with
  | .error e, hq => exact hx σ pins H2 s2 e s' I2 hq
  | .ok (.ret u), hq => exact I2.after hq
end

/-! ### set(xs), xs a list of a few ints, and sorted of it -/
abbrev bareSet (w : World) : Obj := { cls := .type "set", dict := none, data := .set #[] 0 (.fresh 0 0 (!w.params.followText "set-order")) }
section
variable {P : Program} {w : World} {A : Around} {E : Value → Shared → Prop} {s : Shared}
set_option maxRecDepth 100000 in
set_option maxHeartbeats 6400000 in
theorem set_of_list {l : Addr} {items : Array Value} (ns : List Int) {Q : Value → Shared → Prop} (calm : A.handled = none) (isl : s.heap.IsList l items) (inn : IntsAre items.toList ns) (few : ns.length + 1 < scanBound)
    (done : ∀ (h' : Heap) (tk c : Nat), SetR w h' s.heap.objs.size (fun j => decide (j ∈ ns)) c → c ≤ ns.length → (∀ b o, s.heap.get? b = some o → h'.get? b = some o) → Q (.ref s.heap.objs.size) { s with heap := h', toks := tk }) :
    wpAny (model P w) A (call (.type "set") [.ref l]) Q E s := by
  have many : items.size = ns.length := (Array.length_toList (xs := items)).symm.trans (IntsAre.length inn)
  have f1 := F.called_set.made
  have f2 := F.called_set.sub
  have f3 := F.called_set.notType
  have f4 := F.called_set.canCreate
  have f5 := F.typeCall_set_1 (.ref l)
  obtain ⟨f6, f7, f8⟩ := F.called_set.mro
  refine wpAny_call (codeAny_of_tree ?_)
  show wpAny _ _ (callAny (.type "set") _) _ _ _
  refine wpAny_pure ⟨Code.quiet_builtin _ (by decide +kernel), codeAny_builtin F.entry_type_call ?_⟩
  rw [Around.under_plain (weight_type_call_type "set" [.ref l] []) rfl]
  repeat (any_goals (first | assumption | wp_step))
  refine codeAny_mono (code_set_led1 (.ref l) (E := E) (Q₁ := fun obj t => obj = .ref s.heap.objs.size ∧ t = { s with heap := s.heap.push (bareSet w) }) ⟨rfl, rfl⟩) fun r t hr => ?_
  match r, hr with
  | .error e, hr => exact hr
  | .ok .next, hr => exact hr.elim
  | .ok .brk, hr => exact hr.elim
  | .ok .cont, hr => exact hr.elim
  | .ok (.ret obj), hr =>
    obtain ⟨rfl, rfl⟩ := hr
    have at0 : (s.heap.push (bareSet w)).get? s.heap.objs.size = some (bareSet w) := Heap.get?_push_size _ rfl
    have ty : Shared.TypeIs { s with heap := s.heap.push (bareSet w) } (.ref s.heap.objs.size) "set" := ⟨_, at0, rfl⟩
    have g1 := F.called_set.init.lookup
    have g2 := F.called_set.init.bind (.ref s.heap.objs.size)
    repeat (any_goals (first | assumption | wp_step))
    refine codeAny_mono (codeAny_call_builtin (R := wants (fun r t2 => r = .none ∧ ∃ h' tk c, t2 = { s with heap := h', toks := tk } ∧ SetR w h' s.heap.objs.size (fun j => decide (j ∈ ns)) c ∧ c ≤ ns.length ∧
      (∀ b o, s.heap.get? b = some o → h'.get? b = some o)) E) F.called_set.init.plain F.entry_set_init (check_set_init_1 ty ?_)) fun r2 t2 hr2 => ?_
    · obtain ⟨⟨cl, dc, dt, sl⟩, isl0, isl1, nl, isl2⟩ := isl
      dsimp only at isl1 isl2
      subst isl1 isl2
      have at1 : (s.heap.push (bareSet w)).get? l = some { cls := .type "list", dict := dc, data := .seq items nl, slots := sl } := Heap.get?_push_of_some _ isl0
      have k1 := F.sub_list_set
      have k2 := F.sub_list_frozenset
      have k3 : (Value.type "list" == Value.type "dict") = false := by decide
      have isl' : (s.heap.push (bareSet w)).IsList l items := ⟨_, at1, rfl, nl, rfl⟩
      have lt0 : l < s.heap.objs.size := Heap.lt_size isl0
      have sz1 : (s.heap.push (bareSet w)).objs.size = s.heap.objs.size + 1 := Heap.size_push ..
      unfold Builtin.«set.__init__» noKeywords Builtin.Frozenset.updateFrom
      generalize hold : pyIter = PI
      wp_walk
      subst hold
      refine wpAny_pyIter_list isl' ?_
      refine wpAny_bind (wpAny_runValue ?_)
      have calm3 : A.in1.in1.in1.handled = none := by simp [calm]
      have ne1 : l ≠ (s.heap.push (bareSet w)).objs.size := by
        rw [sz1]; exact Nat.ne_of_lt (Nat.lt_succ_of_lt lt0)
      have off : s.heap.objs.size ∉ [(s.heap.push (bareSet w)).objs.size, l] := by
        rw [sz1]
        simp only [List.mem_cons, List.not_mem_nil, or_false, not_or]
        exact ⟨Nat.ne_of_lt (Nat.lt_succ_self _), Nat.ne_of_gt lt0⟩
      have each : ∀ (i : Nat) (v : Value), items[i]? = some v → ∃ k t, ns[i]? = some k ∧ v = .int k t := fun i v hv => by
        have hi : i < ns.length := by rw [← many]; exact (Array.getElem?_eq_some_iff.mp hv).1
        obtain ⟨t, e⟩ := PyProof.Rows.IntsAre.int_at inn i v ((Array.getElem?_toList ..).trans hv)
        refine ⟨ns[i], t, List.getElem?_eq_getElem hi, ?_⟩
        rw [e, List.getD_eq_getElem?_getD, List.getElem?_eq_getElem hi] <;> rfl
      refine set_update_ints ((Walks.list calm3 _ l ne1 items).toS) s.heap.objs.size off ns many few each (items.size - 0) 0 _ (Nat.sub_zero _ ▸ rfl) (Nat.zero_le _) ⟨⟨_, Heap.get?_push_size _ rfl, rfl, rfl⟩, (isl'.push _)⟩ ?_ ?_
      · exact ⟨0, Nat.le_refl 0, setR_new_at (Heap.get?_push_of_some _ at0)⟩
      · intro t3 c3 hm hc hS
        obtain ⟨h3, g3, d3, tk3, os3⟩ := t3
        obtain rfl : g3 = s.gens := hm.gens
        obtain rfl : d3 = s.drawn := hm.drawn
        obtain rfl : os3 = s.os := hm.os
        refine wpAny_pure ?_
        rw [many] at hc
        refine wpAny_pure ⟨rfl, h3, tk3, c3, rfl, hS, hc, fun b o e => ?_⟩
        have lb : b < s.heap.objs.size := Heap.lt_size e
        refine hm.heap b o ?_ (Heap.get?_push_of_some _ (Heap.get?_push_of_some _ e))
        rw [sz1]
        simp only [List.mem_cons, List.not_mem_nil, or_false, not_or]
        exact ⟨Nat.ne_of_lt lb, Nat.ne_of_lt (Nat.lt_succ_of_lt lb)⟩
    · match r2, hr2 with
      | .error e, hr2 => exact hr2
      | .ok .next, hr2 => exact hr2.elim
      | .ok .brk, hr2 => exact hr2.elim
      | .ok .cont, hr2 => exact hr2.elim
      | .ok (.ret z), hr2 =>
        obtain ⟨rfl, h', tk, c', rfl, hS, hc, hk⟩ := hr2
        repeat (any_goals (first | assumption | wp_step))
        exact done _ _ _ hS hc hk
end
section
variable {X : Cx}
def rSetOfL (K : PySem.W.Frag) (w : World) : List V → Hp → VK → Prop := fun vs H Q => ∃ (a : Addr) (ns : List Int), vs = [.ref a] ∧ SqL K H a (ns.map V.int) ∧ ns.length < 60 ∧ ∀ (p : Addr) (c : Nat), c ≤ ns.length → H p = none → Q (.ref p) (upd H p (SetO w p (fun j => decide (j ∈ ns)) c))
theorem call_setL (hc : X.calm = true) : CallR X (.type "set") (rSetOfL X.K X.w) := by
  intro pins s σ H vs us Q I r h
  obtain ⟨a, ns, rfl, hs, few, q⟩ := h
  obtain ⟨its, rv, hl, hz⟩ := I.list hs
  rw [Vals.ref1 r]
  have sb : scanBound = 4096 := rfl
  refine set_of_list ns (I.ok.hd hc) hl.isList (by simpa using rv.ints) (by omega) fun h' tk c hS hn k => ?_
  have J : Inv X pins σ (upd H s.heap.objs.size (SetO X.w s.heap.objs.size (fun j => decide (j ∈ ns)) c)) { s with heap := h', toks := tk } :=
    I.laid (t' := tk) k (Nat.le_refl _) (setO_new hS)
  exact ⟨.ref _, _, J, rfl, q _ c hn (I.hok.fresh (Nat.le_refl _))⟩
end
end K19

/-! The end of a law's row where the law's own def is run at the claim's caller: there it is known which guards stand (none), so repr of data is. -/
namespace K19
open PySem PySem.Spec PyProof.Rows L2

/-- a def that is run in the surroundings A keeps its promise, where nothing may leave it but its answer -/
theorem runs_at {P : Program} {w : World} {K : PySem.W.Frag} {mg : Str → Option Value} {base : Heap} {k : Nat} {f : Addr} {x qual : Str} {st : Stmt} {fd : FuncData} {N ps : List Str} (D : Fun K x qual st f fd) (S : FnScope N ps (defScope st))
    (A : Around) (outer : List Env) (s : Shared) (H : Hp) (args : Args) (us : List Value) (vs : List V) (Q : VK) (room : Room (k + 1) A) (e0 : Env0 P w K mg base A outer s H) (hb : BindsTo s fd args (ps.zip us)) (r : Vals vs us) (hl : vs.length = ps.length)
    (body : ∀ cdv : Value, Room k (A.deeper (envOfC qual (defScope st) s.heap.objs.size f cdv)) → ∃ t, PSs (cxOf CX0 P w K mg base N qual (defScope st) f cdv A outer s H E0).nox (defBody st) t ∧ t { nx := fun _ H' => Q .non H', rt := Q } (start N vs) H) :
    codeAny (model P w) A (.call (.ref f) args) (fun r s' => match r with | .ok (.ret u) => CE outer P w H s Q u s' | _ => False) s := by
  obtain ⟨oc, od, kV, doc, pm, an, cdv, ct, osl, rfl, lk, hcd⟩ := D.ex
  have old : ∀ b o, base.get? b = some o → s.heap.get? b = some o := fun b o e => (e0.bs b o e).1
  have KX : K.In s.heap := e0.mod.kin.keeps old
  have kinds : ∀ y ∈ ps.zip us, (defScope st).names.lookup y.1 = some .local ∨ ((defScope st).names.lookup y.1 = some .cell ∧ ((cellsFrom (s.heap.objs.size + 1) (defScope st).names []).lookup y.1).isSome = true) := by
    rintro ⟨n, v⟩ hy
    exact (S.par n (List.of_mem_zip hy).1).imp id fun q => ⟨q, PySem.W.cellsFrom_some _ _ _ (.inl q)⟩
  refine codeAny_call_function room.depth (KX _ _ lk) rfl S.co S.gen rfl (PySem.W.codeRec_of KX hcd) (hb _ _ _ _ (wpAny_newFunctionEnv_cells S.kind kinds fun env he s1 new => ?_))
  subst he
  refine ⟨(e0.mod.nolimit.keeps old).keeps new.toInCall.keep, codeAny_func ?_⟩
  obtain ⟨t, ht, hq⟩ := body cdv (room.deeper _)
  have I : L2.Inv (cxOf CX0 P w K mg base N qual (defScope st) f cdv A outer s H E0) [] (start N vs) H s1 := inv_start S room.hd e0 hl r new
  refine wpAny_mono (ht.nox.run [] s1 (start N vs) H _ I hq) (fun fl s' hs => ?_) fun e s' hs => ?_
  · match fl, hs with
    | .ret u, hs =>
      obtain ⟨v, σ', H', J, rv, q⟩ := hs
      exact ⟨v, H', J.os, J.bare, J.base, J.hok, rv, q⟩
    | .next, hs =>
      obtain ⟨σ', H', J, q⟩ := hs
      exact ⟨.non, H', J.os, J.bare, J.base, J.hok, rfl, q⟩
    | .brk, hs =>
      obtain ⟨_, _, _, q⟩ := hs
      exact q.elim
    | .cont, hs =>
      obtain ⟨_, _, _, q⟩ := hs
      exact q.elim
  · exact wpAny_mono hs (fun _ _ z => z) fun _ _ z => z

/-- what the law's def is to keep at the caller: for a list of ints that stands, True -/
def LawRuns (P : Program) (w : World) (K : PySem.W.Frag) (mg : Str → Option Value) (n : Nat) (fa : Addr) : Prop :=
  ∀ (base : Heap) (s : Shared) (H : Hp) (a : Addr) (ns : List Int), Env0 P w K mg base callerA [] s H → SqL K H a (ns.map V.int) → ns.length ≤ n →
    codeAny (model P w) callerA (.call (.ref fa) ⟨[.ref a], []⟩) (fun r s' => match r with | .ok (.ret u) => CE [] P w H s (fun v _ => v = .bl true) u s' | _ => False) s

theorem law_end {l : PySem.W.OpenLaw} {n : Nat} {q : Program} {loose : List Str} {XP : (Str → Option Value) → Heap → Prop} {YP : World → Heap → Prop} {d : DefRec} {K : Params → PySem.W.Frag}
    (most : l.most = some n) (line : n ≤ sizeLine) (plain : d.params.defaults = []) (hY : ∀ (w : World) (h : Heap), YP w h → (K w.params).In h)
    (runs : ∀ (w : World) (mg : Str → Option Value) (fa : Addr) (h : Heap), (K w.params).In h → h.Ns mainGlobals mg → mg d.name = some (.ref fa) → LawRuns l.prog w (K w.params) mg n fa) :
    PySem.W.WalkO q loose XP YP l.row.toRowW d [] (fun f vs => PySem.call f vs) := by
  refine Att.attach_call most plain fun w s₀ s₁ mg mb fa o pm cd doc a vs ns G Y ho hd hcd hmg hobj hints hlen hg => ?_
  have KX := hY w _ Y
  have run := runs w mg fa _ KX G.T.g hmg
  have rv := vals_ints hints
  have fit : ns.length ≤ sizeLine := Nat.le_trans hlen line
  -- from any abstract heap where nothing but the script is tracked, known as it stands
  have go : ∀ H : Hp, (∀ b u, H b = some u → b = a ∧ (K w.params).lookup a = none ∧ u = .frz { cls := .type "list", data := .seq vs.toArray } (.lst (ns.map V.int))) → SqL (K w.params) H a (ns.map V.int) →
      codeAny (model l.prog w) callerA (.call (.ref fa) ⟨[.ref a], []⟩) (fun r s' => r = .ok (.ret (.bool true)) ∧ OldK s₁.heap s'.heap ∧ s'.os = s₁.os ∧ AllBare s'.gens) s₁ := by
    intro H only seq
    have ok : HOk l.prog w H s₁.heap := fun b u e => by
      obtain ⟨rfl, _, rfl⟩ := only b u e
      exact ⟨hobj, by rw [List.length_map]; exact fit, vs, _, rv, hobj⟩
    have ns_hid : ∀ {b : Addr} {m : Str → Option Value}, s₁.heap.Ns b m → (hidT s₁.heap H).Ns b m := fun {b m} hh => by
      obtain ⟨ob, es, ep, e, dd, r⟩ := hh
      refine ⟨ob, es, ep, hidT_get e ?_, dd, r⟩
      cases z : H b with
      | none => rfl
      | some u =>
        obtain ⟨rfl, _, _⟩ := only b u z
        rw [hobj] at e
        cases e
        cases dd
    have kin : (K w.params).In (hidT s₁.heap H) := fun b ob e => hidT_get (KX b ob e) (by
      cases z : H b with
      | none => rfl
      | some u =>
        obtain ⟨rfl, no, _⟩ := only b u z
        rw [no] at e
        cases e)
    have m : Mod (K w.params) mg (hidT s₁.heap H) := ⟨kin, ns_hid G.T.g, ⟨mb, ns_hid G.T.b, G.T.builtins⟩, by
      obtain ⟨mc, h1, h2⟩ := G.T.nolimit
      exact ⟨mc, ns_hid h1, h2⟩⟩
    have e0 : Env0 l.prog w (K w.params) mg (hidT s₁.heap H) callerA [] s₁ H := ⟨rfl, m, fun b ob e => of_hidT e, Nat.le_of_eq (hidT_size _ _), trivial, fun b hb => absurd (show b ∈ ([] : List Addr) from hb) List.not_mem_nil, ok, .of_eq hg⟩
    refine codeAny_mono (run _ s₁ H a ns e0 seq hlen) fun r s' h => ?_
    match r, h with
    | .ok (.ret u), h =>
      obtain ⟨v, H', os, bare, un, hok', rel, rfl⟩ := h
      obtain rfl : u = Value.bool true := rel
      refine ⟨rfl, OldK.of_keep fun b ob e => ?_, os, bare⟩
      cases z : H b with
      | none => exact un.keep b ob e z (fun y => absurd (show b ∈ ([] : List Addr) from y) List.not_mem_nil) List.not_mem_nil
      | some u =>
        obtain ⟨rfl, _, rfl⟩ := only b u z
        rw [hobj] at e
        cases e
        exact (hok' b _ (un.frzs b _ _ z)).1
  cases known : (K w.params).lookup a with
  | some ob =>
    have e := KX a ob known
    rw [hobj] at e
    cases e
    exact go (fun _ => none) (fun b u z => nomatch z) (.inr ⟨_, vs.toArray, _, known, rfl, rfl, rfl, by rw [List.size_toArray, ← rv.length, List.length_map]; exact fit, by simpa using rv⟩)
  | none =>
    refine go (fun b => if b = a then some (.frz { cls := .type "list", data := .seq vs.toArray } (.lst (ns.map V.int))) else none) (fun b u z => ?_) (.inl (.inr ⟨_, if_pos rfl⟩))
    by_cases hb : b = a
    · rw [if_pos hb] at z
      exact ⟨hb, known, (Option.some.inj z).symm⟩
    · rw [if_neg hb] at z
      cases z
end K19

/-! What all the walks share: the text by places, heaps, what stands for a tree and a lot, defs that are known. -/
namespace K19
open PySem PySem.Spec PyProof.Rows L2

def topS (i : Nat) : Stmt := PySem.Challenge.pw_onescale_k19_whole_lots_that_go_by_numbe.main.body.getD i (.Pass ⟨0, 0, 0, 0⟩)

/-! ### heaps -/
/-- what never changes -/
def fixedO : HO → Bool
  | .tup _ => true
  | .frz _ _ => true
  | _ => false
/-- all that was tracked stands, but perhaps the things at ex -/
def Fz (ex : List Addr) (H H' : Hp) : Prop := ∀ b o, H b = some o → b ∉ ex ∨ fixedO o = true → H' b = some o
theorem Fz.refl {ex : List Addr} {H : Hp} : Fz ex H H := fun _ _ h _ => h
theorem Fz.trans {ex : List Addr} {H H1 H2 : Hp} (a : Fz ex H H1) (b : Fz ex H1 H2) : Fz ex H H2 := fun c o h k => b c o (a c o h k) k
theorem Fz.of {ex : List Addr} {H H' : Hp} (h : Same H H') : Fz ex H H' := fun b o e _ => h b o e
theorem Fz.nil {H H' : Hp} (h : Fz [] H H') : Same H H' := fun b o e => h b o e (.inl List.not_mem_nil)
theorem Fz.new {ex : List Addr} {H : Hp} {p : Addr} {o : HO} (h : H p = none) : Fz ex H (upd H p o) := fun b u e _ => by
  rw [upd_ne (ne_of_none e h)]
  exact e
theorem Fz.chg {ex : List Addr} {H : Hp} {p : Addr} {o u : HO} (h : H p = some u) (hu : fixedO u = false) (hp : p ∈ ex) : Fz ex H (upd H p o) := fun b w e k => by
  have ne : b ≠ p := fun z => by
    subst z
    rw [h] at e
    cases e
    rcases k with k | k
    · exact k hp
    · rw [hu] at k
      cases k
  rw [upd_ne ne]
  exact e
theorem Fz.sub {ex ex' : List Addr} {H H' : Hp} (h : Fz ex H H') (s : ∀ b ∈ ex, b ∈ ex') : Fz ex' H H' := fun b o e k => h b o e (k.imp (fun n m => n (s b m)) id)
theorem Fz.free {ex : List Addr} {H H' : Hp} {p : Addr} (h : Fz ex H H') (hx : ∀ b ∈ ex, ∃ o, H b = some o → False ∨ b ≠ p ∨ True) (n : H' p = none) (np : p ∉ ex) : H p = none := by
  cases e : H p with
  | none => rfl
  | some o =>
    rw [h p o e (.inl np)] at n
    cases n
theorem new_same {H : Hp} {p : Addr} (o : HO) (h : H p = none) : Same H (upd H p o) := fun b u e => by
  rw [upd_ne (ne_of_none e h)]
  exact e
theorem Fz.tup {ex : List Addr} {K : PySem.W.Frag} {H H' : Hp} {a : Addr} {xs : List V} (h : Fz ex H H') (s : SqT K H a xs) : SqT K H' a xs := by
  rcases s with (s | ⟨o, s⟩) | s
  · exact .inl (.inl (h a _ s (.inr rfl)))
  · exact .inl (.inr ⟨o, h a _ s (.inr rfl)⟩)
  · exact .inr s
theorem Fz.lst {ex : List Addr} {K : PySem.W.Frag} {H H' : Hp} {a : Addr} {xs : List V} (h : Fz ex H H') (n : a ∉ ex) (s : SqL K H a xs) : SqL K H' a xs := by
  rcases s with (s | ⟨o, s⟩) | s
  · exact .inl (.inl (h a _ s (.inl n)))
  · exact .inl (.inr ⟨o, h a _ s (.inr rfl)⟩)
  · exact .inr s
theorem SqT.inj {K : PySem.W.Frag} {H : Hp} {a : Addr} {xs : List V} (h : H a = some (.tup xs)) : SqT K H a xs := .inl (.inl h)

/-! ### a tree, a lot -/
mutual
def TrAt (K : PySem.W.Frag) (H : Hp) : Tr → V → Prop
  | .leaf b, v => v = .int b
  | .node k ps, v => ∃ (a q : Addr) (xs : List V), v = .ref a ∧ SqT K H a [.int k, .ref q] ∧ SqT K H q xs ∧ TrAll K H ps xs
def TrAll (K : PySem.W.Frag) (H : Hp) : List Tr → List V → Prop
  | [], xs => xs = []
  | t :: ts, xs => ∃ (v : V) (vs : List V), xs = v :: vs ∧ TrAt K H t v ∧ TrAll K H ts vs
end
mutual
theorem TrAt.fz {K : PySem.W.Frag} {ex : List Addr} {H H' : Hp} (h : Fz ex H H') : ∀ (t : Tr) (v : V), TrAt K H t v → TrAt K H' t v
  | .leaf b, v, e => by
    simp only [TrAt] at e ⊢
    exact e
  | .node k ps, v, e => by
    simp only [TrAt] at e ⊢
    obtain ⟨a, q, xs, e1, e2, e3, e4⟩ := e
    exact ⟨a, q, xs, e1, h.tup e2, h.tup e3, TrAll.fz h ps xs e4⟩
theorem TrAll.fz {K : PySem.W.Frag} {ex : List Addr} {H H' : Hp} (h : Fz ex H H') : ∀ (ts : List Tr) (xs : List V), TrAll K H ts xs → TrAll K H' ts xs
  | [], xs, e => by
    simp only [TrAll] at e ⊢
    exact e
  | t :: ts, xs, e => by
    simp only [TrAll] at e ⊢
    obtain ⟨v, vs, e1, e2, e3⟩ := e
    exact ⟨v, vs, e1, TrAt.fz h t v e2, TrAll.fz h ts vs e3⟩
end
theorem TrAll.length {K : PySem.W.Frag} {H : Hp} : ∀ (ts : List Tr) (xs : List V), TrAll K H ts xs → xs.length = ts.length
  | [], xs, e => by
    simp only [TrAll] at e
    rw [e]
    rfl
  | t :: ts, xs, e => by
    simp only [TrAll] at e
    obtain ⟨v, vs, rfl, _, e3⟩ := e
    rw [List.length_cons, List.length_cons, TrAll.length ts vs e3]
theorem TrAll.get {K : PySem.W.Frag} {H : Hp} : ∀ (ts : List Tr) (xs : List V) (i : Nat) (x : V), TrAll K H ts xs → xs[i]? = some x → ∃ t, ts[i]? = some t ∧ TrAt K H t x
  | [], xs, i, x, e, hx => by
    simp only [TrAll] at e
    subst e
    cases i <;> cases hx
  | t :: ts, xs, i, x, e, hx => by
    simp only [TrAll] at e
    obtain ⟨v, vs, rfl, e2, e3⟩ := e
    cases i with
    | zero =>
      cases hx
      exact ⟨t, rfl, e2⟩
    | succ i => exact TrAll.get ts vs i x e3 (by simpa using hx)
/-- the lot at v -/
def LotAt (K : PySem.W.Frag) (H : Hp) (v : V) (l : List Int) : Prop := ∃ a, v = .ref a ∧ SqT K H a (l.map V.int)
theorem LotAt.fz {K : PySem.W.Frag} {ex : List Addr} {H H' : Hp} {v : V} {l : List Int} (h : Fz ex H H') : LotAt K H v l → LotAt K H' v l := fun ⟨a, e, s⟩ => ⟨a, e, h.tup s⟩
theorem ints_get {ns : List Int} {i : Nat} {x : V} (h : (ns.map V.int)[i]? = some x) : ∃ n, ns[i]? = some n ∧ x = .int n := by
  rw [List.getElem?_map] at h
  cases e : ns[i]? with
  | none =>
    rw [e] at h
    cases h
  | some n =>
    rw [e] at h
    exact ⟨n, rfl, (Option.some.inj h).symm⟩
theorem inV_ints (b : Int) (l : List Int) : inV (.int b) (l.map V.int) = decide (b ∈ l) := by
  unfold inV
  rw [List.any_map]
  by_cases h : b ∈ l
  · rw [decide_eq_true h]
    refine List.any_eq_true.mpr ⟨b, h, ?_⟩
    show eqV (.int b) (.int b) = true
    simp [eqV]
  · rw [decide_eq_false h]
    refine List.any_eq_false.mpr fun y hy q => ?_
    have q' : eqV (.int y) (.int b) = true := q
    have e : y = b := by simpa [eqV] using q'
    exact h (e ▸ hy)
theorem flat_ints (l : List Int) : (l.map V.int).all flatV = true := by
  rw [List.all_map]
  exact List.all_eq_true.mpr fun _ _ => rfl

/-! ### defs that are known -/
structure Kn (P : Program) (w : World) (K : PySem.W.Frag) (mg : Str → Option Value) (base : Heap) (CX : CXT) (k : Nat) (x : Str) (ps : List Str) (sp : Sp) : Prop where
  ex : ∃ f fd, FnOk P w K mg base CX k f fd ps sp ∧ mg x = some (.ref f) ∧ PySem.W.keepIn K (.ref f) = true ∧ Binds K fd ps []
theorem Kn.mono {P : Program} {w : World} {K : PySem.W.Frag} {mg : Str → Option Value} {base : Heap} {CX : CXT} {j k : Nat} {x : Str} {ps : List Str} {sp : Sp} (C : Kn P w K mg base CX j x ps sp) (h : j ≤ k) : Kn P w K mg base CX k x ps sp := by
  obtain ⟨f, fd, a, b, c, d⟩ := C.ex
  exact ⟨⟨f, fd, a.mono h, b, c, d⟩⟩
def tKn (sp : Sp) (t : TA) : TE := fun σ H Q => t σ H fun vs H1 => sp vs H1 Q E0
section
variable {X : Cx} {k : Nat} {ps : List Str} {sp : Sp} {x : Str} {p pos : Pos} {e : Expr} {es : List Expr} {t : TA}
theorem pe_kn (C : Kn X.prog X.w X.K X.mg X.base CX0 k x ps sp) (hr : Room k X.A) (hg : Gl X x) (ha : PA X (e :: es) t) (hdb : (x == ("__debug__" : Str)) = false := by decide)
    (he : starEach (e :: es) X.env = (false, eval e X.env) :: starEach es X.env := by rfl) (hpl : (backTo pos (starEach es X.env)).any (·.1) = false := by rfl) : PE X (.Call (.Name x p) (e :: es) [] pos) (tKn sp t) := by
  obtain ⟨f, fd, G, m, kp, b⟩ := C.ex
  have h := pe_call (p := p) (pos := pos) G hr hg m kp b .nil pass0 ha hdb he hpl
  constructor
  intro pins s σ H Q I q
  refine h.run pins s σ H Q I ?_
  have e1 : (fun vs H1 => sp (vs ++ []) H1 Q E0) = fun vs H1 => sp vs H1 Q E0 := by
    funext vs H1
    rw [List.append_nil]
  show t σ H fun vs H1 => sp (vs ++ []) H1 Q E0
  rw [e1]
  exact q
/-- a def that may raise, called within a try: W is what is wished there -/
theorem pe_knS {W : WX} (C : Kn X.prog X.w X.K X.mg X.base (L2.CX X.prog X.w) k x ps sp) (hr : Room k X.A) (hg : Gl X x) (tk : Takes X W) (ha : PA X (e :: es) t) (hdb : (x == ("__debug__" : Str)) = false := by decide)
    (he : starEach (e :: es) X.env = (false, eval e X.env) :: starEach es X.env := by rfl) (hpl : (backTo pos (starEach es X.env)).any (·.1) = false := by rfl) : PE X (.Call (.Name x p) (e :: es) [] pos) (tCallS sp (WE W) t) := by
  obtain ⟨f, fd, G, m, kp, b⟩ := C.ex
  exact pe_callS G hr hg m kp b (fun σ => passAt tk σ) ha hdb he hpl
end
/-- a def by its body: the reading t and that it comes to the promise -/
theorem kn_of {P : Program} {w : World} {K : PySem.W.Frag} {mg : Str → Option Value} {base : Heap} {k : Nat} {x : Str} {st : Stmt} {f : Addr} {fd : FuncData} {N ps : List Str} {sp : Sp} (F : Fun K x x st f fd) (m : mg x = some (.ref f)) (b : Binds K fd ps [])
    (S : FnScope N ps (defScope st)) (len : ∀ vs H Q E, sp vs H Q E → vs.length = ps.length) (t : TS)
    (walk : ∀ (cdv : Value) (A : Around) (outer : List Env) (s : Shared) (H : Hp) (E : XK), Room k (A.deeper (envOfC x (defScope st) s.heap.objs.size f cdv)) → PSs (cxOf CX0 P w K mg base N x (defScope st) f cdv A outer s H E).nox (defBody st) t)
    (law : ∀ (vs : List V) (H : Hp) (Q : VK) (E : XK), sp vs H Q E → t { nx := fun _ H' => Q .non H', rt := Q } (start N vs) H) : Kn P w K mg base CX0 (k + 1) x ps sp :=
  ⟨⟨f, fd, F.ok S len fun cdv A outer s H vs Q E hr h => ⟨t, walk cdv A outer s H E hr, law vs H Q E h⟩, m, F.kp, b⟩⟩

/-! ### names of builtins -/
theorem b_isinstance : bootBuiltins "isinstance" = some (.builtin "isinstance") := by decide +kernel
theorem b_len : bootBuiltins "len" = some (.builtin "len") := by decide +kernel
theorem b_sum : bootBuiltins "sum" = some (.builtin "sum") := by decide +kernel
theorem b_abs : bootBuiltins "abs" = some (.builtin "abs") := by decide +kernel
theorem b_min : bootBuiltins "min" = some (.builtin "min") := by decide +kernel
theorem b_sorted : bootBuiltins "sorted" = some (.builtin "sorted") := by decide +kernel
theorem b_repr : bootBuiltins "repr" = some (.builtin "repr") := by decide +kernel
theorem b_int : bootBuiltins "int" = some (.type "int") := by decide +kernel
theorem b_bool : bootBuiltins "bool" = some (.type "bool") := by decide +kernel
theorem b_str : bootBuiltins "str" = some (.type "str") := by decide +kernel
theorem b_tuple : bootBuiltins "tuple" = some (.type "tuple") := by decide +kernel
theorem b_list : bootBuiltins "list" = some (.type "list") := by decide +kernel
theorem b_set : bootBuiltins "set" = some (.type "set") := by decide +kernel
/-- what the top has written of names -/
structure Txt (K : PySem.W.Frag) (mg : Str → Option Value) : Prop where
  m_isinstance : mg "isinstance" = none
  m_len : mg "len" = none
  m_sum : mg "sum" = none
  m_abs : mg "abs" = none
  m_min : mg "min" = none
  m_sorted : mg "sorted" = none
  m_repr : mg "repr" = none
  m_int : mg "int" = none
  m_bool : mg "bool" = none
  m_str : mg "str" = none
  m_tuple : mg "tuple" = none
  m_list : mg "list" = none
  m_set : mg "set" = none
  m_range : mg "range" = none
  m_enumerate : mg "enumerate" = none
  m_zip : mg "zip" = none
  maxButton : ∃ t, mg "MAX_BUTTON" = some (.int 99 t)
  maxLot : ∃ t, mg "MAX_LOT" = some (.int 100 t)
theorem pe_maxB {K : PySem.W.Frag} {mg : Str → Option Value} (T : Txt K mg) {X : Cx} {p : Pos} (hm : X.mg = mg) (hg : Gl X "MAX_BUTTON") : PE X (.Name "MAX_BUTTON" p) (tC (.int 99)) := by
  obtain ⟨t, e⟩ := T.maxButton
  subst hm
  exact pe_glob hg e ⟨t, rfl⟩
theorem pe_maxL {K : PySem.W.Frag} {mg : Str → Option Value} (T : Txt K mg) {X : Cx} {p : Pos} (hm : X.mg = mg) (hg : Gl X "MAX_LOT") : PE X (.Name "MAX_LOT" p) (tC (.int 100)) := by
  obtain ⟨t, e⟩ := T.maxLot
  subst hm
  exact pe_glob hg e ⟨t, rfl⟩
/-- any value that is asked of its type -/
structure AnyV (K : PySem.W.Frag) (H : Hp) (v : V) (n : String) : Prop where
  ty : TyX K H v (.type n)
  kn : n ∈ ["NoneType", "bool", "int", "str", "list", "tuple", "dict"]
/-- isinstance(v, c) for one of three classes -/
theorem isi_ans {K : PySem.W.Frag} {n c : String} (hn : n ∈ ["NoneType", "bool", "int", "str", "list", "tuple", "dict"]) (hc : c ∈ ["int", "bool", "tuple"]) : PySem.W.kitOne K (.type n) (.type c) = some (decide (n = c) || (decide (n = "bool") && decide (c = "int"))) := by
  simp only [List.mem_cons, List.not_mem_nil, or_false] at hn hc
  rcases hn with rfl | rfl | rfl | rfl | rfl | rfl | rfl <;> rcases hc with rfl | rfl | rfl <;> exact kit_ty (by decide +kernel)
theorem isi_go {K : PySem.W.Frag} {H : Hp} {v : V} {n c : String} {Q : VK} (a : AnyV K H v n) (hc : c ∈ ["int", "bool", "tuple"]) (q : Q (.bl (decide (n = c) || (decide (n = "bool") && decide (c = "int")))) H) : rIsi K [v, .ty c] H Q :=
  ⟨v, .ty c, _, _, _, rfl, .ty c, a.ty, isi_ans a.kn hc, q⟩
theorem any_int {K : PySem.W.Frag} {H : Hp} (i : Int) : AnyV K H (.int i) "int" := ⟨.base (.int i), by simp⟩
theorem any_bl {K : PySem.W.Frag} {H : Hp} (i : Bool) : AnyV K H (.bl i) "bool" := ⟨.base (.bl i), by simp⟩
theorem any_non {K : PySem.W.Frag} {H : Hp} : AnyV K H .non "NoneType" := ⟨.base .non, by simp⟩
theorem any_str {K : PySem.W.Frag} {H : Hp} (x : Str) : AnyV K H (.str x) "str" := ⟨.base (.str x), by simp⟩
theorem any_lst {K : PySem.W.Frag} {H : Hp} {a : Addr} {xs : List V} (h : H a = some (.lst xs)) : AnyV K H (.ref a) "list" := ⟨.base (.lst h), by simp⟩
theorem any_dK {K : PySem.W.Frag} {H : Hp} {a : Addr} {xs : List (Key × V)} (h : H a = some (.dK xs)) : AnyV K H (.ref a) "dict" := ⟨.base (.dK h), by simp⟩
theorem any_tup {K : PySem.W.Frag} {H : Hp} {a : Addr} {xs : List V} (h : SqT K H a xs) : AnyV K H (.ref a) "tuple" := by
  rcases h with (h | ⟨o, h⟩) | ⟨o, its, n, h, hc, _⟩
  · exact ⟨.base (.tup h), by simp⟩
  · exact ⟨.fTuple h, by simp⟩
  · exact ⟨.kTuple h hc, by simp⟩
theorem AnyV.fz {K : PySem.W.Frag} {H H' : Hp} {v : V} {n : String} (s : Same H H') (a : AnyV K H v n) : AnyV K H' v n := by
  obtain ⟨t, k⟩ := a
  refine ⟨?_, k⟩
  cases t with
  | base b =>
    refine .base ?_
    cases b with
    | non => exact .non
    | bl x => exact .bl x
    | int i => exact .int i
    | str x => exact .str x
    | flt x => exact .flt x
    | lst e => exact .lst (s _ _ e)
    | frz e => exact .frz (s _ _ e)
    | tup e => exact .tup (s _ _ e)
    | dK e => exact .dK (s _ _ e)
    | dT e => exact .dT (s _ _ e)
  | byt b => exact .byt b
  | set e => exact .set (s _ _ e)
  | kList e c => exact .kList e c
  | kTuple e c => exact .kTuple e c
  | kDict e c => exact .kDict e c
  | fTuple e => exact .fTuple (s _ _ e)
  | fDict e => exact .fDict (s _ _ e)

/-! ### Unfit: raised; calls by keywords alone; places of comprehensions -/
structure UnfitTxt (P : Program) (w : World) (K : PySem.W.Frag) (mg : Str → Option Value) (base : Heap) (U fI : Addr) : Prop where
  oex : OexC K U
  gU : mg "Unfit" = some (.ref U)
  ini : PySem.W.findIn K (.ref U) "__init__" = some (some (.ref fI))
  tI : PySem.W.typeIn K (.ref fI) = some (.type "function")
  run : ∃ fd, FnOk P w K mg base CX0 1 fI fd ["self"] (spIni U) ∧ Binds K fd ["self"] []
def tUnfit (U : Addr) (E : XK) : TS := fun _ _ H => E (.ref U) none H
theorem ps_unfit {X : Cx} {U fI : Addr} {E : XK} {p p2 pos : Pos} (T : UnfitTxt X.prog X.w X.K X.mg X.base U fI) (hr : Room 2 X.A) (hc : X.calm = true) (tk : Takes X (fun cls d _ H => E cls d H)) (hg : Gl X "Unfit") :
    PS X (.Raise (some (.Call (.Name "Unfit" p) [] [] p2)) none pos) (tUnfit U E) := by
  obtain ⟨fd, F, b⟩ := T.run
  have h := ps_raise (pos := pos) hc tk (pmk_bare (p := p) (pos := p2) T.oex T.ini T.tI F hr b pass0 hg T.gU)
  constructor
  intro pins s σ H D I q
  exact h.run pins s σ H D I q
structure KnB (P : Program) (w : World) (K : PySem.W.Frag) (mg : Str → Option Value) (base : Heap) (CX : CXT) (k : Nat) (x : Str) (ps : List Str) (sp : Sp) : Prop where
  ex : ∃ f fd, FnOk P w K mg base CX k f fd ps sp ∧ mg x = some (.ref f) ∧ PySem.W.keepIn K (.ref f) = true ∧ ∀ (s : Shared) (ws : List Value), ws.length = ps.length → BindsTo s fd ⟨[], ps.reverse.zip ws⟩ (ps.zip ws.reverse)
section
variable {X : Cx} {k : Nat} {ps : List Str} {sp : Sp} {x : Str} {p pos : Pos} {kws : List Keyword} {tk : TA}
theorem pe_knB (C : KnB X.prog X.w X.K X.mg X.base CX0 k x ps sp) (hr : Room k X.A) (hg : Gl X x) (hkw : PK X kws tk)
    (hall : (backToKw pos (keywordEach kws X.env)).all (·.1.isSome) = true := by rfl) (hks : (backToKw pos (keywordEach kws X.env)).filterMap (·.1) = ps.reverse := by rfl) (hdb : (x == ("__debug__" : Str)) = false := by decide)
    (hpl : ((backTo pos (starEach [] X.env)).any (·.1) || (backToKw pos (keywordEach kws X.env)).any (·.1.isNone)) = false := by rfl) :
    PE X (.Call (.Name x p) [] kws pos) (tCallBack sp (fun _ => E0) tk) := by
  obtain ⟨f, fd, G, m, kp, b⟩ := C.ex
  exact pe_callBack G hr hg m kp b (fun σ pins H s e s' I h => h.elim) hkw hall hks hdb hpl
theorem pe_knBS {W : WX} (C : KnB X.prog X.w X.K X.mg X.base (L2.CX X.prog X.w) k x ps sp) (hr : Room k X.A) (hg : Gl X x) (tk0 : Takes X W) (hkw : PK X kws tk)
    (hall : (backToKw pos (keywordEach kws X.env)).all (·.1.isSome) = true := by rfl) (hks : (backToKw pos (keywordEach kws X.env)).filterMap (·.1) = ps.reverse := by rfl) (hdb : (x == ("__debug__" : Str)) = false := by decide)
    (hpl : ((backTo pos (starEach [] X.env)).any (·.1) || (backToKw pos (keywordEach kws X.env)).any (·.1.isNone)) = false := by rfl) :
    PE X (.Call (.Name x p) [] kws pos) (tCallBack sp (WE W) tk) := by
  obtain ⟨f, fd, G, m, kp, b⟩ := C.ex
  exact pe_callBack G hr hg m kp b (fun σ => passAt tk0 σ) hkw hall hks hdb hpl
end
def lcScope : Expr → Scope
  | .ListComp _ _ sc _ => sc
  | _ => { kind := .function, names := [], isGenerator := false, isCoroutine := false }
def valOf : Stmt → Expr
  | .Assign _ v _ => v
  | _ => .Constant .none 0 ⟨0, 0, 0, 0⟩
def argOf : Expr → Expr
  | .Call _ as _ _ => as.getD 0 (.Constant .none 0 ⟨0, 0, 0, 0⟩)
  | e => e
def subOf (i : Nat) : Stmt → Stmt
  | .For _ _ b _ _ => b.getD i (.Pass ⟨0, 0, 0, 0⟩)
  | .If _ b _ _ => b.getD i (.Pass ⟨0, 0, 0, 0⟩)
  | .FunctionDef _ _ b _ _ _ _ _ _ _ => b.getD i (.Pass ⟨0, 0, 0, 0⟩)
  | s => s
end K19

/-! sorted of a tuple of ints, any number of them -/
namespace K19T
open PySem PyProof.Rows
section
variable {prog : Program} {w : World} {A : Around} {E : Value → Shared → Prop} {s : Shared}
theorem collect_tuple {l : Addr} {vs : List Value} {Q : List Value → Shared → Prop} (hl : s.heap.IsTuple l vs.toArray)
    (h : Q vs { s with heap := (s.heap.push (seqObj "list" #[] 0)).update s.heap.objs.size (Obj.mapSeq (· ++ vs.toArray)) }) (hsz : vs.length ≤ sizeLine) :
    wpAny (model prog w) A (collect (.ref l)) Q E s := by
  obtain ⟨o, ho, hc, n, hd⟩ := id hl
  unfold collect
  refine wpAny_bind (wpAny_runValue (codeAny_builtin entry_proto_collect' ?_))
  show wpAny _ _ (do again (.builtin "list.__iadd__" ⟨[← newList [], .ref l], []⟩)) _ _ s
  refine wpAny_bind (wpAny_newList (wpAny_pure ⟨Code.quiet_builtin _ (by decide +kernel), codeAny_builtin entry_list_iadd' ?_⟩))
  show wpAny _ _ (Builtin.List.listExtendWith (.ref s.heap.objs.size) (.ref l) (.ref s.heap.objs.size)) _ _ { s with heap := s.heap.push (seqObj "list" #[] 0) }
  unfold Builtin.List.listExtendWith
  have ho' : (s.heap.push (seqObj "list" #[] 0)).get? l = some o := Heap.get?_push_of_some _ ho
  refine wpAny_bind (wpAny_typeOf (T := "tuple") ⟨o, ho', hc⟩ ?_)
  have ht : (Value.type "tuple" == Value.type "tuple") = true := by rfl
  rw [if_pos (by rw [ht]; simp)]
  refine wpAny_bind (listItems_at ho' hd ?_)
  refine wpAny_bind (listItems_at (xs := #[]) (n := 0) (Heap.get?_push_size _ rfl) rfl ?_)
  rw [if_neg (by simp)]
  refine wpAny_bind (listUpdate_at (xs := #[]) (n := 0) (Heap.get?_push_size _ rfl) rfl ?_ (Nat.zero_le _) (by show (#[] ++ vs.toArray).size ≤ sizeLine + 1; simp only [Array.size_append, List.size_toArray, List.length_nil]; omega))
  refine wpAny_pure ?_
  show wpAny (model prog w) A (do
      let o ← load s.heap.objs.size
      match o.data with
      | .seq xs _ => pure xs.toList
      | _ => unsupported "internal:collect") Q E { s with heap := (s.heap.push (seqObj "list" #[] 0)).update s.heap.objs.size (Obj.mapSeq (· ++ vs.toArray)) }
  refine wpAny_bind (wpAny_load (get?_update_seq (Heap.get?_push_size _ rfl) _) ?_)
  show wpAny _ _ (pure ((#[] : Array Value) ++ vs.toArray).toList) Q E _
  rw [show ((#[] : Array Value) ++ vs.toArray).toList = vs by simp]
  exact wpAny_pure h
theorem sorted_ordT {l : Addr} {vs : List Value} {ltv : Value → Value → Bool} {Q : Value → Shared → Prop} (O : SrtO.Swo ltv) (hl : s.heap.IsTuple l vs.toArray) (hz : vs.length ≤ sizeLine)
    (hS : 2 ≤ vs.length → ∀ (h₁ : Heap) (a : Addr), h₁.get? a = some (seqObj "list" vs.toArray 0) → (∀ b o, s.heap.get? b = some o → b ≠ a ∧ h₁.get? b = some o) → SrtO.SortableO prog w A.in1.in1 { s with heap := h₁ } a vs ltv)
    (h : ∀ out : List Value, SrtO.Srtd ltv out → SrtO.Stb ltv out vs → Q (.ref (s.heap.objs.size + 1)) { s with heap := sortedAll s.heap vs out.toArray }) :
    wpAny (model prog w) A (call (.builtin "sorted") [.ref l]) Q E s := by
  refine Calls.call_function_entry kind_sorted plain_sorted entry_sorted (args_sorted1 _) ?_
  unfold Builtin.«sorted»
  refine wpAny_bind (m := checkCount "sorted" 1 1 _) (wpAny_pure ?_)
  refine wpAny_bind (collect_tuple hl ?_ hz)
  refine wpAny_bind (wpAny_newList ?_ hz)
  have hsz : ((s.heap.push (seqObj "list" #[] 0)).update s.heap.objs.size (Obj.mapSeq (· ++ vs.toArray))).objs.size = s.heap.objs.size + 1 := by
    rw [Heap.size_update, Heap.size_push]
  have hoL : (((s.heap.push (seqObj "list" #[] 0)).update s.heap.objs.size (Obj.mapSeq (· ++ vs.toArray))).push (seqObj "list" vs.toArray 0)).get? (s.heap.objs.size + 1) = some (seqObj "list" vs.toArray 0) := by
    rw [← hsz]; exact Heap.get?_push_size _ rfl
  have keep : ∀ b o, s.heap.get? b = some o → b ≠ s.heap.objs.size + 1 ∧ (((s.heap.push (seqObj "list" #[] 0)).update s.heap.objs.size (Obj.mapSeq (· ++ vs.toArray))).push (seqObj "list" vs.toArray 0)).get? b = some o := fun b o q => by
    have hlt : b < s.heap.objs.size := Heap.lt_size q
    refine ⟨Nat.ne_of_lt (Nat.lt_succ_of_lt hlt), Heap.get?_push_of_some _ ?_⟩
    rw [Heap.get?_update_ne _ _ _ _ (Nat.ne_of_lt hlt)]
    exact Heap.get?_push_of_some _ q
  show wpAny _ _ _ _ _ { s with heap := ((s.heap.push (seqObj "list" #[] 0)).update s.heap.objs.size (Obj.mapSeq (· ++ vs.toArray))).push (seqObj "list" vs.toArray 0) }
  rw [hsz]
  refine wpAny_bind (wpAny_holding (wpAny_call_entry slot_list_sort ⟨_, hoL, rfl⟩ entry_list_sort (SrtO.list_sort_ord O hoL hz (fun h2 => hS h2 _ _ hoL keep) fun out hs hb => ⟨_, rfl, ?_⟩) (args_list_sort _)))
  exact wpAny_pure ⟨_, rfl, h out hs hb⟩
end
end K19T
namespace K19
open PySem PySem.Spec PyProof.Rows L2
def rSortedIT (K : PySem.W.Frag) : List V → Hp → VK → Prop := fun vs H Q => ∃ (a : Addr) (ns : List Int), vs = [V.ref a] ∧ SqT K H a (ns.map V.int) ∧
  ∀ (ns' : List Int) (p : Addr), ns'.Perm ns → ns'.Pairwise (· ≤ ·) → H p = none → Q (.ref p) (upd H p (.lst (ns'.map V.int)))
theorem cr_sortedIT {X : Cx} : CallR X (.builtin "sorted") (rSortedIT X.K) := by
  intro pins s σ H vs us Q I r h
  obtain ⟨a, ns, rfl, hs, q⟩ := h
  obtain ⟨its, rv, hl, hz⟩ := I.tuple hs
  rw [Vals.ref1 r]
  have hi := rv.ints
  refine K19T.sorted_ordT SrtO.swo_int hl (by rw [← rv.length]; exact hz) (fun h2 h₁ a' _ _ => SrtO.ints_sortable hi h2) fun out h1 h2 => ?_
  obtain ⟨k1, k2, k3⟩ := SrtO.ints_out hi h1 h2
  obtain ⟨ep, he'⟩ := PyProof.Rows.sortedAll_at s.heap its out.toArray
  have hlen : ((out.map SrtO.iv).map V.int).length ≤ sizeLine := by
    rw [List.length_map, k2.length_eq]
    rw [List.length_map] at hz
    exact hz
  exact ⟨.ref _, upd H (s.heap.objs.size + 1) (.lst ((out.map SrtO.iv).map V.int)), I.laid (t' := s.toks) (fun _ _ => PyProof.Rows.sortedAll_old) (Nat.le_succ _) ⟨hlen, out, ep, vals_of_ints k1, he'⟩, rfl, q _ _ k2 k3 (I.hok.fresh (Nat.le_succ _))⟩
end K19

namespace K19
open PySem PySem.Spec PyProof.Rows L2
abbrev s_isint : Stmt := topS 6
abbrev N_isint : List Str := ["value"]
theorem sc_isint : FnScope N_isint ["value"] (defScope s_isint) := ⟨rfl, rfl, rfl, by decide +kernel, rfl, by decide +kernel, by decide +kernel⟩
def t_isint (K : PySem.W.Frag) (w : World) : TS :=
  (tRet (tAndV (tCB (rIsi K) (tCons (tVar 0) (tCons (tC (.ty "int")) tNil))) (tNotV (tCB (rIsi K) (tCons (tVar 0) (tCons (tC (.ty "bool")) tNil))))))
theorem d_isint {P : Program} {w : World} {K : PySem.W.Frag} {mg : Str → Option Value} {base : Heap} (T : Txt K mg) {k : Nat} {f : Addr} {cdv : Value} {A : Around} {outer : List Env} {s : Shared} {H : Hp} {E : XK} (hr : Room k (A.deeper (envOfC "is_integer" (defScope s_isint) s.heap.objs.size f cdv))) :
    PSs (cxOf (CX0) P w K mg base N_isint "is_integer" (defScope s_isint) f cdv A outer s H E).nox (defBody s_isint) (t_isint K w) :=
  (pss_one (ps_ret (pe_and (pe_callB call_isi (by rfl) T.m_isinstance b_isinstance (pa_cons (pv 0) (pa_cons (pe_bltn (v := .ty "int") (by rfl) T.m_int b_int rfl) pa_nil))) (pe_one (pe_not (pe_callB call_isi (by rfl) T.m_isinstance b_isinstance (pa_cons (pv 0) (pa_cons (pe_bltn (v := .ty "bool") (by rfl) T.m_bool b_bool rfl) pa_nil))))))))

abbrev s_isbtn : Stmt := topS 7
abbrev N_isbtn : List Str := ["value"]
theorem sc_isbtn : FnScope N_isbtn ["value"] (defScope s_isbtn) := ⟨rfl, rfl, rfl, by decide +kernel, rfl, by decide +kernel, by decide +kernel⟩
def t_isbtn (K : PySem.W.Frag) (w : World) (sp_isint : Sp) : TS :=
  (tRet (tAndV (tKn sp_isint (tCons (tVar 0) tNil)) (tChain (rI0 fun i j => .bl (decide (i ≤ j))) (rI0 fun i j => .bl (decide (i ≤ j))) (tC (.int 0)) (tVar 0) (tC (.int 99)))))
theorem d_isbtn {P : Program} {w : World} {K : PySem.W.Frag} {mg : Str → Option Value} {base : Heap} (T : Txt K mg) {sp_isint : Sp} {k : Nat} {k_isint : Nat} (l_isint : k_isint ≤ k) (C_isint : Kn P w K mg base CX0 k_isint "is_integer" ["value"] sp_isint) {f : Addr} {cdv : Value} {A : Around} {outer : List Env} {s : Shared} {H : Hp} {E : XK} (hr : Room k (A.deeper (envOfC "is_button" (defScope s_isbtn) s.heap.objs.size f cdv))) :
    PSs (cxOf (CX0) P w K mg base N_isbtn "is_button" (defScope s_isbtn) f cdv A outer s H E).nox (defBody s_isbtn) (t_isbtn K w sp_isint) :=
  (pss_one (ps_ret (pe_and (pe_kn C_isint (hr.mono (by omega)) (by rfl) (pa_cons (pv 0) pa_nil)) (pe_one (pe_chain op_le op_le pe_int (pv 0) (pe_maxB T rfl (by rfl)))))))

abbrev s_istrip : Stmt := topS 8
abbrev N_istrip : List Str := ["tree"]
theorem sc_istrip : FnScope N_istrip ["tree"] (defScope s_istrip) := ⟨rfl, rfl, rfl, by decide +kernel, rfl, by decide +kernel, by decide +kernel⟩
def t_istrip (K : PySem.W.Frag) (w : World) : TS :=
  (tRet (tCB (rIsi K) (tCons (tVar 0) (tCons (tC (.ty "tuple")) tNil))))
theorem d_istrip {P : Program} {w : World} {K : PySem.W.Frag} {mg : Str → Option Value} {base : Heap} (T : Txt K mg) {k : Nat} {f : Addr} {cdv : Value} {A : Around} {outer : List Env} {s : Shared} {H : Hp} {E : XK} (hr : Room k (A.deeper (envOfC "is_trip" (defScope s_istrip) s.heap.objs.size f cdv))) :
    PSs (cxOf (CX0) P w K mg base N_istrip "is_trip" (defScope s_istrip) f cdv A outer s H E).nox (defBody s_istrip) (t_istrip K w) :=
  (pss_one (ps_ret (pe_callB call_isi (by rfl) T.m_isinstance b_isinstance (pa_cons (pv 0) (pa_cons (pe_bltn (v := .ty "tuple") (by rfl) T.m_tuple b_tuple rfl) pa_nil)))))

abbrev s_bio : Stmt := topS 9
abbrev N_bio : List Str := ["tree", "found", "part"]
theorem sc_bio : FnScope N_bio ["tree"] (defScope s_bio) := ⟨rfl, rfl, rfl, by decide +kernel, rfl, by decide +kernel, by decide +kernel⟩
def t_bio (K : PySem.W.Frag) (w : World) (sp_istrip sp_bio : Sp) : TS :=
  (tSeq (tIfS (tNot (tB (tKn sp_istrip (tCons (tVar 0) tNil)))) (tRet (tLst (tCons (tVar 0) tNil))) tNext)
    (tSeq (tAsg (tLst tNil) (gName 1))
    (tSeq (tFor (iTup K (tOp (rIxT K) (tVar 0) (tC (.int 1)))) (gName 2) (tDrop (tBM K "list" rExtend (tVar 1) (tCons (tKn sp_bio (tCons (tVar 2) tNil)) tNil))))
    (tRet (tVar 1)))))
theorem d_bio {P : Program} {w : World} {K : PySem.W.Frag} {mg : Str → Option Value} {base : Heap} (T : Txt K mg) {sp_istrip sp_bio : Sp} {k : Nat} {k_istrip : Nat} (l_istrip : k_istrip ≤ k) (C_istrip : Kn P w K mg base CX0 k_istrip "is_trip" ["tree"] sp_istrip) {k_bio : Nat} (l_bio : k_bio ≤ k) (C_bio : Kn P w K mg base CX0 k_bio "buttons_in_order" ["tree"] sp_bio) {f : Addr} {cdv : Value} {A : Around} {outer : List Env} {s : Shared} {H : Hp} {E : XK} (hr : Room k (A.deeper (envOfC "buttons_in_order" (defScope s_bio) s.heap.objs.size f cdv))) :
    PSs (cxOf (CX0) P w K mg base N_bio "buttons_in_order" (defScope s_bio) f cdv A outer s H E).nox (defBody s_bio) (t_bio K w sp_istrip sp_bio) :=
  (pss_cons (ps_if (pt_not (pt_val (pe_kn C_istrip (hr.mono (by omega)) (by rfl) (pa_cons (pv 0) pa_nil)))) (pss_one (ps_ret (pe_lst (pa_cons (pv 0) pa_nil)))) pss_nil)
    (pss_cons (ps_set (i := 1) sc_bio.nd rfl (Or.inl rfl) (pe_lst pa_nil))
    (pss_cons (ps_for PassesOwn.never rfl (pi_tup (pe_ix ix_tup (pv 0) pe_int (fun _ _ => rfl))) (pg_name (i := 2) sc_bio.nd rfl (Or.inl rfl)) (pss_one (ps_expr (pe_bm PySem.F.plainAttrs_list PySem.F.slot_list_extend PySem.F.type_list_extend mt_extend (pv 1) (pa_cons (pe_kn C_bio (hr.mono (by omega)) (by rfl) (pa_cons (pv 2) pa_nil)) pa_nil)))))
    (pss_one (ps_ret (pv 1))))))

abbrev s_bof : Stmt := topS 10
abbrev N_bof : List Str := ["tree"]
theorem sc_bof : FnScope N_bof ["tree"] (defScope s_bof) := ⟨rfl, rfl, rfl, by decide +kernel, rfl, by decide +kernel, by decide +kernel⟩
def t_bof (K : PySem.W.Frag) (w : World) (sp_bio : Sp) : TS :=
  (tRet (tCB (fun xs H Q => ∃ p ys, xs = [.ref p] ∧ ((SqL K H p ys ∧ ∀ l, H l = none → Q (.ref l) (upd H l (.tup ys))) ∨ (SqT K H p ys ∧ Q (.ref p) H))) (tCons (tCB (rSortedI K) (tCons (tKn sp_bio (tCons (tVar 0) tNil)) tNil)) tNil)))
theorem d_bof {P : Program} {w : World} {K : PySem.W.Frag} {mg : Str → Option Value} {base : Heap} (T : Txt K mg) {sp_bio : Sp} {k : Nat} {k_bio : Nat} (l_bio : k_bio ≤ k) (C_bio : Kn P w K mg base CX0 k_bio "buttons_in_order" ["tree"] sp_bio) {f : Addr} {cdv : Value} {A : Around} {outer : List Env} {s : Shared} {H : Hp} {E : XK} (hr : Room k (A.deeper (envOfC "buttons_of" (defScope s_bof) s.heap.objs.size f cdv))) :
    PSs (cxOf (CX0) P w K mg base N_bof "buttons_of" (defScope s_bof) f cdv A outer s H E).nox (defBody s_bof) (t_bof K w sp_bio) :=
  (pss_one (ps_ret (pe_callTy call_tuple_of (by rfl) T.m_tuple b_tuple (pa_cons (pe_callB cr_sortedI (by rfl) T.m_sorted b_sorted (pa_cons (pe_kn C_bio (hr.mono (by omega)) (by rfl) (pa_cons (pv 0) pa_nil)) pa_nil)) pa_nil))))

abbrev s_goes : Stmt := topS 13
abbrev N_goes : List Str := ["tree", "lot", "part"]
theorem sc_goes : FnScope N_goes ["tree", "lot"] (defScope s_goes) := ⟨rfl, rfl, rfl, by decide +kernel, rfl, by decide +kernel, by decide +kernel⟩
def t_goes (K : PySem.W.Frag) (w : World) (sp_istrip sp_goes : Sp) : TS :=
  (tSeq (tIfS (tNot (tB (tKn sp_istrip (tCons (tVar 0) tNil)))) (tRet (tOp (rIn K false) (tVar 0) (tVar 1))) tNext)
    (tRet (tOp (rI0 fun i j => .bl (decide (j ≤ i))) (tCB (fun xs H Q => ∃ p ys, xs = [.ref p] ∧ (SqL K H p ys ∨ SqT K H p ys) ∧ Q (.int ys.length) H) (tCons (tLc (iTup K (tOp (rIxT K) (tVar 0) (tC (.int 1)))) (gName 2) (tB (tKn sp_goes (tCons (tVar 2) (tCons (tVar 1) tNil)))) (tC (.int 1)) [2]) tNil)) (tOp (rIxT K) (tVar 0) (tC (.int 0))))))
theorem d_goes {P : Program} {w : World} {K : PySem.W.Frag} {mg : Str → Option Value} {base : Heap} (T : Txt K mg) {sp_istrip sp_goes : Sp} {k : Nat} {k_istrip : Nat} (l_istrip : k_istrip ≤ k) (C_istrip : Kn P w K mg base CX0 k_istrip "is_trip" ["tree"] sp_istrip) {k_goes : Nat} (l_goes : k_goes ≤ k) (C_goes : Kn P w K mg base CX0 k_goes "goes" ["tree", "lot"] sp_goes) {f : Addr} {cdv : Value} {A : Around} {outer : List Env} {s : Shared} {H : Hp} {E : XK} (hr : Room k (A.deeper (envOfC "goes" (defScope s_goes) s.heap.objs.size f cdv))) :
    PSs (cxOf (CX0) P w K mg base N_goes "goes" (defScope s_goes) f cdv A outer s H E).nox (defBody s_goes) (t_goes K w sp_istrip sp_goes) :=
  (pss_cons (ps_if (pt_not (pt_val (pe_kn C_istrip (hr.mono (by omega)) (by rfl) (pa_cons (pv 0) pa_nil)))) (pss_one (ps_ret (pe_cmpR op_in_seq (pv 0) (pv 1) (by rfl)))) pss_nil)
    (pss_one (ps_ret (pe_cmpR op_ge (pe_callB call_len_seq (by rfl) T.m_len b_len (pa_cons (pe_lc (own := [("part", 2)]) (g := (gName 2)) (tt := (tB (tKn sp_goes (tCons (tVar 2) (tCons (tVar 1) tNil))))) (te := (tC (.int 1))) rfl sc_goes.nd (pi_tup (pe_ix ix_tup (pv 0) pe_int (fun _ _ => rfl))) (blkOk_by (own := [("part", 2)]) (N := N_goes) (sc := defScope s_goes) (by decide +kernel)) (fun _ _ _ _ _ => (pg_name (i := 2) sc_goes.nd rfl (Or.inl rfl))) (fun _ _ _ _ _ => (pts_one (pt_val (pe_kn C_goes (hr.mono (by omega)) (by rfl) (pa_cons (pv 2) (pa_cons (pv 1) pa_nil)))))) (fun _ _ _ _ _ => pe_int)) pa_nil)) (pe_ix ix_tup (pv 0) pe_int (fun _ _ => rfl)) (nomark _)))))

end K19

namespace K19
open PySem PySem.Spec PyProof.Rows L2
abbrev s_lerr : Stmt := topS 12
abbrev N_lerr : List Str := ["value", "place", "item"]
theorem sc_lerr : FnScope N_lerr ["value"] (defScope s_lerr) := ⟨rfl, rfl, rfl, by decide +kernel, rfl, by decide +kernel, by decide +kernel⟩
def t_lerr (K : PySem.W.Frag) (w : World) (sp_isbtn : Sp) : TS :=
  (tSeq (tIfS (tOr (tNot (tB (tCB (rIsi K) (tCons (tVar 0) (tCons (tC (.ty "tuple")) tNil))))) (tTest (tOp (rI0 fun i j => .bl (decide (j < i))) (tCB (fun xs H Q => ∃ p ys, xs = [.ref p] ∧ (SqL K H p ys ∨ SqT K H p ys) ∧ Q (.int ys.length) H) (tCons (tVar 0) tNil)) (tC (.int 100))))) (tRet (tC (.str "form"))) tNext)
    (tSeq (tFor (iEnumT K (tCons (tVar 0) tNil)) (gTup K 2 (gCons (gName 1) (gCons (gName 2) gNil))) (tIfS (tNot (tB (tKn sp_isbtn (tCons (tVar 2) tNil)))) (tRet (tTup (tCons (tC (.str "button")) (tCons (tVar 1) tNil)))) tNext))
    (tSeq (tFor (iRng2 (tCons (tC (.int 1)) (tCons (tCB (fun xs H Q => ∃ p ys, xs = [.ref p] ∧ (SqL K H p ys ∨ SqT K H p ys) ∧ Q (.int ys.length) H) (tCons (tVar 0) tNil)) tNil))) (gName 1) (tIfS (tTest (tOp (rI0 fun i j => .bl (decide (i ≤ j))) (tOp (rIxT K) (tVar 0) (tVar 1)) (tOp (rIxT K) (tVar 0) (tOp (rI0 fun i j => .int (i - j)) (tVar 1) (tC (.int 1)))))) (tRet (tTup (tCons (tC (.str "order")) (tCons (tVar 1) tNil)))) tNext))
    (tRet (tC .non)))))
theorem d_lerr {P : Program} {w : World} {K : PySem.W.Frag} {mg : Str → Option Value} {base : Heap} (T : Txt K mg) {sp_isbtn : Sp} {k : Nat} {k_isbtn : Nat} (l_isbtn : k_isbtn ≤ k) (C_isbtn : Kn P w K mg base CX0 k_isbtn "is_button" ["value"] sp_isbtn) {f : Addr} {cdv : Value} {A : Around} {outer : List Env} {s : Shared} {H : Hp} {E : XK} (hr : Room k (A.deeper (envOfC "lot_error" (defScope s_lerr) s.heap.objs.size f cdv))) :
    PSs (cxOf (CX0) P w K mg base N_lerr "lot_error" (defScope s_lerr) f cdv A outer s H E).nox (defBody s_lerr) (t_lerr K w sp_isbtn) :=
  (pss_cons (ps_if (PW.pt (pw_or (pt_not (pt_val (pe_callB call_isi (by rfl) T.m_isinstance b_isinstance (pa_cons (pv 0) (pa_cons (pe_bltn (v := .ty "tuple") (by rfl) T.m_tuple b_tuple rfl) pa_nil))))) (pw_or1 (pt_cmpR op_gt (pe_callB call_len_seq (by rfl) T.m_len b_len (pa_cons (pv 0) pa_nil)) (pe_maxL T rfl (by rfl)) (nomark _))))) (pss_one (ps_ret pe_str)) pss_nil)
    (pss_cons (ps_for PassesOwn.never rfl (pi_enumT (by rfl) T.m_enumerate (pa_cons (pv 0) pa_nil)) (pg_tup rfl (pgs_cons (pg_name (i := 1) sc_lerr.nd rfl (Or.inl rfl)) (pgs_cons (pg_name (i := 2) sc_lerr.nd rfl (Or.inl rfl)) pgs_nil))) (pss_one (ps_if (pt_not (pt_val (pe_kn C_isbtn (hr.mono (by omega)) (by rfl) (pa_cons (pv 2) pa_nil)))) (pss_one (ps_ret (pe_tup (pa_cons pe_str (pa_cons (pv 1) pa_nil))))) pss_nil)))
    (pss_cons (ps_for PassesOwn.never rfl (pi_range2 (by rfl) T.m_range (pa_cons pe_int (pa_cons (pe_callB call_len_seq (by rfl) T.m_len b_len (pa_cons (pv 0) pa_nil)) pa_nil))) (pg_name (i := 1) sc_lerr.nd rfl (Or.inl rfl)) (pss_one (ps_if (pt_cmpR op_le (pe_ix ix_tup (pv 0) (pv 1) (fun _ _ => rfl)) (pe_ix ix_tup (pv 0) (pe_op op_sub (pv 1) pe_int) (fun _ _ => rfl)) (nomark _)) (pss_one (ps_ret (pe_tup (pa_cons pe_str (pa_cons (pv 1) pa_nil))))) pss_nil)))
    (pss_one (ps_ret pe_non)))))

abbrev s_ispl : Stmt := topS 15
abbrev N_ispl : List Str := ["value", "many"]
theorem sc_ispl : FnScope N_ispl ["value", "many"] (defScope s_ispl) := ⟨rfl, rfl, rfl, by decide +kernel, rfl, by decide +kernel, by decide +kernel⟩
def t_ispl (K : PySem.W.Frag) (w : World) : TS :=
  (tRet (tAndV (tCB (rIsi K) (tCons (tVar 0) (tCons (tC (.ty "int")) tNil))) (tAndV (tNotV (tCB (rIsi K) (tCons (tVar 0) (tCons (tC (.ty "bool")) tNil)))) (tChain (rI0 fun i j => .bl (decide (i ≤ j))) (rI0 fun i j => .bl (decide (i < j))) (tC (.int 0)) (tVar 0) (tVar 1)))))
theorem d_ispl {P : Program} {w : World} {K : PySem.W.Frag} {mg : Str → Option Value} {base : Heap} (T : Txt K mg) {k : Nat} {f : Addr} {cdv : Value} {A : Around} {outer : List Env} {s : Shared} {H : Hp} {E : XK} (hr : Room k (A.deeper (envOfC "is_place" (defScope s_ispl) s.heap.objs.size f cdv))) :
    PSs (cxOf (CX0) P w K mg base N_ispl "is_place" (defScope s_ispl) f cdv A outer s H E).nox (defBody s_ispl) (t_ispl K w) :=
  (pss_one (ps_ret (pe_and (pe_callB call_isi (by rfl) T.m_isinstance b_isinstance (pa_cons (pv 0) (pa_cons (pe_bltn (v := .ty "int") (by rfl) T.m_int b_int rfl) pa_nil))) (pe_and (pe_not (pe_callB call_isi (by rfl) T.m_isinstance b_isinstance (pa_cons (pv 0) (pa_cons (pe_bltn (v := .ty "bool") (by rfl) T.m_bool b_bool rfl) pa_nil)))) (pe_one (pe_chain op_le op_lt pe_int (pv 0) (pv 1)))))))

abbrev s_gnums : Stmt := topS 16
abbrev N_gnums : List Str := ["parts", "must", "never", "table", "part", "going", "failing", "staying", "rising", "many", "one", "other"]
theorem sc_gnums : FnScope N_gnums ["parts", "must", "never"] (defScope s_gnums) := ⟨rfl, rfl, rfl, by decide +kernel, rfl, by decide +kernel, by decide +kernel⟩
def t_gnums (K : PySem.W.Frag) (w : World) (sp_gmany : Sp) : TS :=
  (tSeq (tAsg (tLst (tCons (tC (.int 1)) tNil)) (gName 3))
    (tSeq (tFor (iTup K (tVar 0)) (gName 4) (tSeq (tAsg (tKn sp_gmany (tCons (tVar 4) (tCons (tVar 1) (tCons (tVar 2) tNil)))) (gTup K 2 (gCons (gName 5) (gCons (gName 6) gNil))))
    (tSeq (tAsg (tOp rCat (tLc (iList K (tVar 3)) (gName 9) tYes (tOp (rI CMul fun i j => .int (i * j)) (tVar 9) (tVar 6)) [9]) (tLst (tCons (tC (.int 0)) tNil))) (gName 7))
    (tSeq (tAsg (tOp rCat (tLst (tCons (tC (.int 0)) tNil)) (tLc (iList K (tVar 3)) (gName 9) tYes (tOp (rI CMul fun i j => .int (i * j)) (tVar 9) (tVar 5)) [9])) (gName 8))
    (tAsg (tLc (iZip K (tCons (tVar 7) (tCons (tVar 8) tNil))) (gTup K 2 (gCons (gName 10) (gCons (gName 11) gNil))) tYes (tOp (rI0 fun i j => .int (i + j)) (tVar 10) (tVar 11)) [10, 11]) (gName 3))))))
    (tRet (tVar 3))))
theorem d_gnums {P : Program} {w : World} {K : PySem.W.Frag} {mg : Str → Option Value} {base : Heap} (T : Txt K mg) {sp_gmany : Sp} {k : Nat} {k_gmany : Nat} (l_gmany : k_gmany ≤ k) (C_gmany : Kn P w K mg base CX0 k_gmany "going_many" ["tree", "must", "never"] sp_gmany) {f : Addr} {cdv : Value} {A : Around} {outer : List Env} {s : Shared} {H : Hp} {E : XK} (hr : Room k (A.deeper (envOfC "going_numbers" (defScope s_gnums) s.heap.objs.size f cdv))) :
    PSs (cxOf (CX0) P w K mg base N_gnums "going_numbers" (defScope s_gnums) f cdv A outer s H E).nox (defBody s_gnums) (t_gnums K w sp_gmany) :=
  (pss_cons (ps_set (i := 3) sc_gnums.nd rfl (Or.inl rfl) (pe_lst (pa_cons pe_int pa_nil)))
    (pss_cons (ps_for PassesOwn.never rfl (pi_tup (pv 0)) (pg_name (i := 4) sc_gnums.nd rfl (Or.inl rfl)) (pss_cons (ps_asg (pe_kn C_gmany (hr.mono (by omega)) (by rfl) (pa_cons (pv 4) (pa_cons (pv 1) (pa_cons (pv 2) pa_nil)))) (pg_tup rfl (pgs_cons (pg_name (i := 5) sc_gnums.nd rfl (Or.inr rfl)) (pgs_cons (pg_name (i := 6) sc_gnums.nd rfl (Or.inr rfl)) pgs_nil))))
    (pss_cons (ps_set (i := 7) sc_gnums.nd rfl (Or.inl rfl) (pe_op op_cat (pe_lc (own := [("many", 9)]) (g := (gName 9)) (tt := tYes) (te := (tOp (rI CMul fun i j => .int (i * j)) (tVar 9) (tVar 6))) rfl sc_gnums.nd (pi_list (pv 3)) (blkOk_by (own := [("many", 9)]) (N := N_gnums) (sc := defScope s_gnums) (by decide +kernel)) (fun _ _ _ _ _ => (pg_name (i := 9) sc_gnums.nd rfl (Or.inl rfl))) (fun _ _ _ _ _ => pts_nil) (fun _ _ _ _ _ => (pe_op op_mul (pv 9) (pv 6)))) (pe_lst (pa_cons pe_int pa_nil))))
    (pss_cons (ps_set (i := 8) sc_gnums.nd rfl (Or.inl rfl) (pe_op op_cat (pe_lst (pa_cons pe_int pa_nil)) (pe_lc (own := [("many", 9)]) (g := (gName 9)) (tt := tYes) (te := (tOp (rI CMul fun i j => .int (i * j)) (tVar 9) (tVar 5))) rfl sc_gnums.nd (pi_list (pv 3)) (blkOk_by (own := [("many", 9)]) (N := N_gnums) (sc := defScope s_gnums) (by decide +kernel)) (fun _ _ _ _ _ => (pg_name (i := 9) sc_gnums.nd rfl (Or.inl rfl))) (fun _ _ _ _ _ => pts_nil) (fun _ _ _ _ _ => (pe_op op_mul (pv 9) (pv 5))))))
    (pss_one (ps_setLc (i := 3) (own := [("one", 10), ("other", 11)]) (g := (gTup K 2 (gCons (gName 10) (gCons (gName 11) gNil)))) (tt := tYes) (te := (tOp (rI0 fun i j => .int (i + j)) (tVar 10) (tVar 11))) rfl sc_gnums.nd rfl rfl (sw_true rfl rfl rfl (by decide +kernel)) (pi_zip (by rfl) T.m_zip (pa_cons (pv 7) (pa_cons (pv 8) pa_nil))) (blkOk_by (own := [("one", 10), ("other", 11)]) (N := N_gnums) (sc := defScope s_gnums) (by decide +kernel)) (fun _ _ _ _ _ => (pg_tup rfl (pgs_cons (pg_name (i := 10) sc_gnums.nd rfl (Or.inl rfl)) (pgs_cons (pg_name (i := 11) sc_gnums.nd rfl (Or.inl rfl)) pgs_nil)))) (fun _ _ _ _ _ => pts_nil) (fun _ _ _ _ _ => (pe_op op_add (pv 10) (pv 11)))))))))
    (pss_one (ps_ret (pv 3)))))

abbrev s_gmany : Stmt := topS 17
abbrev N_gmany : List Str := ["tree", "must", "never", "bound", "parts", "table"]
theorem sc_gmany : FnScope N_gmany ["tree", "must", "never"] (defScope s_gmany) := ⟨rfl, rfl, rfl, by decide +kernel, rfl, by decide +kernel, by decide +kernel⟩
def t_gmany (K : PySem.W.Frag) (w : World) (sp_gnums : Sp) : TS :=
  (tSeq (tIfS (tB (tCB (rIsi K) (tCons (tVar 0) (tCons (tC (.ty "int")) tNil)))) (tRet (tTup (tCons (tIf (tTest (tOp (rIn K false) (tVar 0) (tVar 2))) (tC (.int 0)) (tC (.int 1))) (tCons (tIf (tTest (tOp (rIn K false) (tVar 0) (tVar 1))) (tC (.int 0)) (tC (.int 1))) tNil)))) tNext)
    (tSeq (tAsg (tVar 0) (gTup K 2 (gCons (gName 3) (gCons (gName 4) gNil))))
    (tSeq (tAsg (tKn sp_gnums (tCons (tVar 4) (tCons (tVar 1) (tCons (tVar 2) tNil)))) (gName 5))
    (tRet (tTup (tCons (tCB (rSum K) (tCons (tSl (rSlL K) (tVar 5) (tPart (tVar 3)) tNoPart) tNil)) (tCons (tCB (rSum K) (tCons (tSl (rSlL K) (tVar 5) tNoPart (tPart (tVar 3))) tNil)) tNil)))))))
theorem d_gmany {P : Program} {w : World} {K : PySem.W.Frag} {mg : Str → Option Value} {base : Heap} (T : Txt K mg) {sp_gnums : Sp} {k : Nat} {k_gnums : Nat} (l_gnums : k_gnums ≤ k) (C_gnums : Kn P w K mg base CX0 k_gnums "going_numbers" ["parts", "must", "never"] sp_gnums) {f : Addr} {cdv : Value} {A : Around} {outer : List Env} {s : Shared} {H : Hp} {E : XK} (hr : Room k (A.deeper (envOfC "going_many" (defScope s_gmany) s.heap.objs.size f cdv))) :
    PSs (cxOf (CX0) P w K mg base N_gmany "going_many" (defScope s_gmany) f cdv A outer s H E).nox (defBody s_gmany) (t_gmany K w sp_gnums) :=
  (pss_cons (ps_if (pt_val (pe_callB call_isi (by rfl) T.m_isinstance b_isinstance (pa_cons (pv 0) (pa_cons (pe_bltn (v := .ty "int") (by rfl) T.m_int b_int rfl) pa_nil)))) (pss_one (ps_ret (pe_tup (pa_cons (pe_ifExp (pt_cmpR op_in_seq (pv 0) (pv 2) (by rfl)) pe_int pe_int) (pa_cons (pe_ifExp (pt_cmpR op_in_seq (pv 0) (pv 1) (by rfl)) pe_int pe_int) pa_nil))))) pss_nil)
    (pss_cons (ps_asg (pv 0) (pg_tup rfl (pgs_cons (pg_name (i := 3) sc_gmany.nd rfl (Or.inl rfl)) (pgs_cons (pg_name (i := 4) sc_gmany.nd rfl (Or.inl rfl)) pgs_nil))))
    (pss_cons (ps_set (i := 5) sc_gmany.nd rfl (Or.inl rfl) (pe_kn C_gnums (hr.mono (by omega)) (by rfl) (pa_cons (pv 4) (pa_cons (pv 1) (pa_cons (pv 2) pa_nil)))))
    (pss_one (ps_ret (pe_tup (pa_cons (pe_callB (cr_sum rfl) (by rfl) T.m_sum b_sum (pa_cons (pe_slice sl_list (pv 5) (po_some (pv 3)) po_none) pa_nil)) (pa_cons (pe_callB (cr_sum rfl) (by rfl) T.m_sum b_sum (pa_cons (pe_slice sl_list (pv 5) po_none (po_some (pv 3))) pa_nil)) pa_nil))))))))

abbrev s_gcount : Stmt := topS 19
abbrev N_gcount : List Str := ["tree", "must", "never", "buttons", "button"]
theorem sc_gcount : FnScope N_gcount ["tree", "must", "never"] (defScope s_gcount) := ⟨rfl, rfl, rfl, by decide +kernel, rfl, by decide +kernel, by decide +kernel⟩
def t_gcount (K : PySem.W.Frag) (w : World) (sp_bof sp_gmany : Sp) : TS :=
  (tSeq (tAsg (tKn sp_bof (tCons (tVar 0) tNil)) (gName 3))
    (tSeq (tIfS (tTest (tOp (rNeD K) (tLc (iTup K (tVar 1)) (gName 4) (tTest (tOp (rIn K true) (tVar 4) (tVar 3))) (tVar 4) [4]) (tLst tNil))) (tRet (tC (.int 0))) tNext)
    (tRet (tOp (rIxT K) (tKn sp_gmany (tCons (tVar 0) (tCons (tVar 1) (tCons (tVar 2) tNil)))) (tC (.int 0))))))
theorem d_gcount {P : Program} {w : World} {K : PySem.W.Frag} {mg : Str → Option Value} {base : Heap} (T : Txt K mg) {sp_bof sp_gmany : Sp} {k : Nat} {k_bof : Nat} (l_bof : k_bof ≤ k) (C_bof : Kn P w K mg base CX0 k_bof "buttons_of" ["tree"] sp_bof) {k_gmany : Nat} (l_gmany : k_gmany ≤ k) (C_gmany : Kn P w K mg base CX0 k_gmany "going_many" ["tree", "must", "never"] sp_gmany) {f : Addr} {cdv : Value} {A : Around} {outer : List Env} {s : Shared} {H : Hp} {E : XK} (hr : Room k (A.deeper (envOfC "going_count" (defScope s_gcount) s.heap.objs.size f cdv))) :
    PSs (cxOf (CX0) P w K mg base N_gcount "going_count" (defScope s_gcount) f cdv A outer s H E).nox (defBody s_gcount) (t_gcount K w sp_bof sp_gmany) :=
  (pss_cons (ps_set (i := 3) sc_gcount.nd rfl (Or.inr rfl) (pe_kn C_bof (hr.mono (by omega)) (by rfl) (pa_cons (pv 0) pa_nil)))
    (pss_cons (ps_if (pt_cmpR (op_neD hr.units) (pe_lc (own := [("button", 4)]) (g := (gName 4)) (tt := (tTest (tOp (rIn K true) (tVar 4) (tVar 3)))) (te := (tVar 4)) rfl sc_gcount.nd (pi_tup (pv 1)) (blkOk_by (own := [("button", 4)]) (N := N_gcount) (sc := defScope s_gcount) (by decide +kernel)) (fun _ _ _ _ _ => (pg_name (i := 4) sc_gcount.nd rfl (Or.inl rfl))) (fun _ _ _ _ _ => (pts_one (pt_cmpR op_notIn_seq (pv 4) (pv 3) (by rfl)))) (fun _ _ _ _ _ => (pv 4))) (pe_lst pa_nil) (nomark _)) (pss_one (ps_ret pe_int)) pss_nil)
    (pss_one (ps_ret (pe_ix ix_tup (pe_kn C_gmany (hr.mono (by omega)) (by rfl) (pa_cons (pv 0) (pa_cons (pv 1) (pa_cons (pv 2) pa_nil)))) pe_int (fun _ _ => rfl))))))

end K19

namespace K19
open PySem PySem.Spec PyProof.Rows L2
abbrev s_lbag : Stmt := topS 23
abbrev N_lbag : List Str := ["_law_script", "_law_great", "_law_mixed_here", "_law_cell"]
theorem sc_lbag : FnScope N_lbag ["_law_script"] (defScope s_lbag) := ⟨rfl, rfl, rfl, by decide +kernel, rfl, by decide +kernel, by decide +kernel⟩
def t_lbag (K : PySem.W.Frag) (w : World) : TS :=
  (tSeq (tPar 1 2 (tCons (tLst tNil) (tCons (tOp (rI0 fun i j => .int (i + j)) (tC (.int 65537)) (tCB (fun xs H Q => ∃ p ys, xs = [.ref p] ∧ (SqL K H p ys ∨ SqT K H p ys) ∧ Q (.int ys.length) H) (tCons (tVar 0) tNil))) tNil)))
    (tSeq (tFor (iList K (tSl (rSlL K) (tVar 0) tNoPart (tPart (tC (.int 60))))) (gName 3) (tSeq (tAsg (tOp (rI (fun _ j => j ≠ 0) fun i j => .int (i.fmod j)) (tCB (fun xs H Q => (∃ i, xs = [.int i] ∧ Q (.int i) H) ∨ ∃ k, xs = [.bl k] ∧ Q (.int (if k then 1 else 0)) H) (tCons (tOp (rI0 fun i j => .int (i + j)) (tOp (rI CMul fun i j => .int (i * j)) (tVar 2) (tC (.int 48271))) (tVar 3)) tNil)) (tC (.int 2147483647))) (gName 2))
    (tIfS (tTest (tOp (rI0 fun i j => .bl (decide (j < i))) (tCB (fun xs H Q => ∃ i, xs = [.int i] ∧ Q (.int (if i < 0 then -i else i)) H) (tCons (tVar 3) tNil)) (tOp (rI CPow fun i j => .int (i ^ j.toNat)) (tC (.int 10)) (tC (.int 12))))) (tDrop (tBM K "list" rAppend (tVar 1) (tCons (tOp (rI0 fun i j => .int (i + j)) (tOp (rI CMul fun i j => .int (i * j)) (tC (.int 2)) (tCB (fun xs H Q => ∃ i, xs = [.int i] ∧ Q (.int (if i < 0 then -i else i)) H) (tCons (tVar 3) tNil))) (tCB (fun xs H Q => (∃ i, xs = [.int i] ∧ Q (.int i) H) ∨ ∃ k, xs = [.bl k] ∧ Q (.int (if k then 1 else 0)) H) (tCons (tOp (rI0 fun i j => .bl (decide (i < j))) (tVar 3) (tC (.int 0))) tNil))) tNil))) tNext)))
    (tRet (tDisp [((tC (.str "great")), (tVar 1)), ((tC (.str "mixed")), (tVar 2)), ((tC (.str "turn")), (tC (.int 0)))]))))
theorem d_lbag {P : Program} {w : World} {K : PySem.W.Frag} {mg : Str → Option Value} {base : Heap} (T : Txt K mg) {k : Nat} {f : Addr} {cdv : Value} {A : Around} {outer : List Env} {s : Shared} {H : Hp} {E : XK} (hr : Room k (A.deeper (envOfC "_law_bag" (defScope s_lbag) s.heap.objs.size f cdv))) :
    PSs (cxOf (CX0) P w K mg base N_lbag "_law_bag" (defScope s_lbag) f cdv A outer s H E).nox (defBody s_lbag) (t_lbag K w) :=
  (pss_cons (ps_par (i := 1) (j := 2) rfl sc_lbag.nd rfl rfl (by decide) rfl rfl (pa_cons (pe_lst pa_nil) (pa_cons (pe_op op_add pe_int (pe_callB call_len_seq (by rfl) T.m_len b_len (pa_cons (pv 0) pa_nil))) pa_nil)) (by rfl))
    (pss_cons (ps_for PassesOwn.never rfl (pi_list (pe_slice sl_list (pv 0) po_none (po_some pe_int))) (pg_name (i := 3) sc_lbag.nd rfl (Or.inl rfl)) (pss_cons (ps_set (i := 2) sc_lbag.nd rfl (Or.inl rfl) (pe_op op_modN (pe_callTy call_int1 (by rfl) T.m_int b_int (pa_cons (pe_op op_add (pe_op op_mul (pv 2) pe_int) (pv 3)) pa_nil)) pe_int))
    (pss_one (ps_if (pt_cmpR op_gt (pe_callB call_abs (by rfl) T.m_abs b_abs (pa_cons (pv 3) pa_nil)) (pe_op op_pow pe_int pe_int) (nomark _)) (pss_one (ps_expr (pe_bm PySem.F.plainAttrs_list PySem.F.slot_list_append PySem.F.type_list_append mt_append (pv 1) (pa_cons (pe_op op_add (pe_op op_mul pe_int (pe_callB call_abs (by rfl) T.m_abs b_abs (pa_cons (pv 3) pa_nil))) (pe_callTy call_int1 (by rfl) T.m_int b_int (pa_cons (pe_cmpR op_lt (pv 3) pe_int (nomark _)) pa_nil))) pa_nil)))) pss_nil))))
    (pss_one (ps_ret (pe_disp (pps_cons pe_str (pv 1) (pps_cons pe_str (pv 2) (pps_cons pe_str pe_int pps_nil))) rfl rfl (fun z => by cases z) (by decide))))))

abbrev s_ldraw : Stmt := topS 24
abbrev N_ldraw : List Str := ["_law_bag_here", "_law_many", "_law_digit", "_law_found"]
theorem sc_ldraw : FnScope N_ldraw ["_law_bag_here", "_law_many"] (defScope s_ldraw) := ⟨rfl, rfl, rfl, by decide +kernel, rfl, by decide +kernel, by decide +kernel⟩
def t_ldraw (K : PySem.W.Frag) (w : World) : TS :=
  (tSeq (tWhile (tAnd (tTest (tOp (rNeD K) (tDGet (tVar 0) (tC (.str "great"))) (tLst tNil))) (tTest (tOp rEq (tOp (rIxL K) (tDGet (tVar 0) (tC (.str "great"))) (tUn (rU fun i => .int (-i)) (tC (.int 1)))) (tC (.int 0))))) (tDrop (tBM0 K "list" rPop (tDGet (tVar 0) (tC (.str "great"))))))
    (tSeq (tIfS (tTest (tOp (rNeD K) (tDGet (tVar 0) (tC (.str "great"))) (tLst tNil))) (tSeq (tAsg (tOp (rI (fun _ j => j ≠ 0) fun i j => .int (i.fmod j)) (tOp (rIxL K) (tDGet (tVar 0) (tC (.str "great"))) (tUn (rU fun i => .int (-i)) (tC (.int 1)))) (tVar 1)) (gName 2))
    (tSeq (tAsg (tOp (rI CDivN fun i j => .int (i.fdiv j)) (tOp (rIxL K) (tDGet (tVar 0) (tC (.str "great"))) (tUn (rU fun i => .int (-i)) (tC (.int 1)))) (tVar 1)) (gSub (tDGet (tVar 0) (tC (.str "great"))) (tUn (rU fun i => .int (-i)) (tC (.int 1))) rSetL))
    (tRet (tCB (fun xs H Q => (∃ i, xs = [.int i] ∧ Q (.int i) H) ∨ ∃ k, xs = [.bl k] ∧ Q (.int (if k then 1 else 0)) H) (tCons (tVar 2) tNil))))) tNext)
    (tSeq (sDPut (tVar 0) (tC (.str "turn")) (tOp (rI0 fun i j => .int (i + j)) (tDGet (tVar 0) (tC (.str "turn"))) (tC (.int 1))))
    (tSeq (tAsg (tOp (rI (fun _ j => j ≠ 0) fun i j => .int (i.fmod j)) (tCB (fun xs H Q => (∃ i, xs = [.int i] ∧ Q (.int i) H) ∨ ∃ k, xs = [.bl k] ∧ Q (.int (if k then 1 else 0)) H) (tCons (tOp (rI0 fun i j => .int (i + j)) (tDGet (tVar 0) (tC (.str "mixed"))) (tOp (rI CMul fun i j => .int (i * j)) (tDGet (tVar 0) (tC (.str "turn"))) (tC (.int 40692)))) tNil)) (tC (.int 2147483399))) (gName 3))
    (tSeq (tAsg (tOp (rI (fun _ j => j ≠ 0) fun i j => .int (i.fmod j)) (tCB (fun xs H Q => (∃ i, xs = [.int i] ∧ Q (.int i) H) ∨ ∃ k, xs = [.bl k] ∧ Q (.int (if k then 1 else 0)) H) (tCons (tOp (rI0 fun i j => .int (i + j)) (tOp (rI0 fun i j => .int (i + j)) (tOp (rI CMul fun i j => .int (i * j)) (tVar 3) (tVar 3)) (tOp (rI CMul fun i j => .int (i * j)) (tDGet (tVar 0) (tC (.str "turn"))) (tC (.int 69621)))) (tC (.int 5))) tNil)) (tC (.int 2147483647))) (gName 3))
    (tSeq (tAsg (tOp (rI (fun _ j => j ≠ 0) fun i j => .int (i.fmod j)) (tCB (fun xs H Q => (∃ i, xs = [.int i] ∧ Q (.int i) H) ∨ ∃ k, xs = [.bl k] ∧ Q (.int (if k then 1 else 0)) H) (tCons (tOp (rI0 fun i j => .int (i + j)) (tOp (rI CMul fun i j => .int (i * j)) (tVar 3) (tVar 3)) (tDGet (tVar 0) (tC (.str "mixed")))) tNil)) (tC (.int 2147483629))) (gName 3))
    (tRet (tOp (rI (fun _ j => j ≠ 0) fun i j => .int (i.fmod j)) (tCB (fun xs H Q => (∃ i, xs = [.int i] ∧ Q (.int i) H) ∨ ∃ k, xs = [.bl k] ∧ Q (.int (if k then 1 else 0)) H) (tCons (tOp (rI CDivN fun i j => .int (i.fdiv j)) (tVar 3) (tC (.int 64))) tNil)) (tVar 1)))))))))
theorem d_ldraw {P : Program} {w : World} {K : PySem.W.Frag} {mg : Str → Option Value} {base : Heap} (T : Txt K mg) {k : Nat} {f : Addr} {cdv : Value} {A : Around} {outer : List Env} {s : Shared} {H : Hp} {E : XK} (hr : Room k (A.deeper (envOfC "_law_draw" (defScope s_ldraw) s.heap.objs.size f cdv))) :
    PSs (cxOf (CX0) P w K mg base N_ldraw "_law_draw" (defScope s_ldraw) f cdv A outer s H E).nox (defBody s_ldraw) (t_ldraw K w) :=
  (pss_cons (ps_while PassesOwn.never (PW.pt (pw_and (pt_cmpR (op_neD hr.units) (pe_dget (hu_of hr) (pv 0) pe_str (fun _ _ => rfl)) (pe_lst pa_nil) (nomark _)) (pw_and1 (pt_cmpR op_eq (pe_ix ix_list (pe_dget (hu_of hr) (pv 0) pe_str (fun _ _ => rfl)) (pe_un un_neg pe_int) (fun _ _ => rfl)) pe_int (nomark _))))) (pss_one (ps_expr (pe_bm0 PySem.F.plainAttrs_list PySem.F.slot_list_pop PySem.F.type_list_pop mt_pop (pe_dget (hu_of hr) (pv 0) pe_str (fun _ _ => rfl))))))
    (pss_cons (ps_if (pt_cmpR (op_neD hr.units) (pe_dget (hu_of hr) (pv 0) pe_str (fun _ _ => rfl)) (pe_lst pa_nil) (nomark _)) (pss_cons (ps_set (i := 2) sc_ldraw.nd rfl (Or.inl rfl) (pe_op op_modN (pe_ix ix_list (pe_dget (hu_of hr) (pv 0) pe_str (fun _ _ => rfl)) (pe_un un_neg pe_int) (fun _ _ => rfl)) (pv 1)))
    (pss_cons (ps_asg (pe_op op_fdivN (pe_ix ix_list (pe_dget (hu_of hr) (pv 0) pe_str (fun _ _ => rfl)) (pe_un un_neg pe_int) (fun _ _ => rfl)) (pv 1)) (pg_sub (pe_dget (hu_of hr) (pv 0) pe_str (fun _ _ => rfl)) (pe_un un_neg pe_int) set_list))
    (pss_one (ps_ret (pe_callTy call_int1 (by rfl) T.m_int b_int (pa_cons (pv 2) pa_nil)))))) pss_nil)
    (pss_cons (ps_dput (hu_of hr) (pv 0) pe_str (pe_op op_add (pe_dget (hu_of hr) (pv 0) pe_str (fun _ _ => rfl)) pe_int) rfl)
    (pss_cons (ps_set (i := 3) sc_ldraw.nd rfl (Or.inl rfl) (pe_op op_modN (pe_callTy call_int1 (by rfl) T.m_int b_int (pa_cons (pe_op op_add (pe_dget (hu_of hr) (pv 0) pe_str (fun _ _ => rfl)) (pe_op op_mul (pe_dget (hu_of hr) (pv 0) pe_str (fun _ _ => rfl)) pe_int)) pa_nil)) pe_int))
    (pss_cons (ps_set (i := 3) sc_ldraw.nd rfl (Or.inl rfl) (pe_op op_modN (pe_callTy call_int1 (by rfl) T.m_int b_int (pa_cons (pe_op op_add (pe_op op_add (pe_op op_mul (pv 3) (pv 3)) (pe_op op_mul (pe_dget (hu_of hr) (pv 0) pe_str (fun _ _ => rfl)) pe_int)) pe_int) pa_nil)) pe_int))
    (pss_cons (ps_set (i := 3) sc_ldraw.nd rfl (Or.inl rfl) (pe_op op_modN (pe_callTy call_int1 (by rfl) T.m_int b_int (pa_cons (pe_op op_add (pe_op op_mul (pv 3) (pv 3)) (pe_dget (hu_of hr) (pv 0) pe_str (fun _ _ => rfl))) pa_nil)) pe_int))
    (pss_one (ps_ret (pe_op op_modN (pe_callTy call_int1 (by rfl) T.m_int b_int (pa_cons (pe_op op_fdivN (pv 3) pe_int) pa_nil)) (pv 1))))))))))

abbrev s_lpick : Stmt := topS 25
abbrev N_lpick : List Str := ["_law_bag_here", "_law_items"]
theorem sc_lpick : FnScope N_lpick ["_law_bag_here", "_law_items"] (defScope s_lpick) := ⟨rfl, rfl, rfl, by decide +kernel, rfl, by decide +kernel, by decide +kernel⟩
def t_lpick (K : PySem.W.Frag) (w : World) (sp_ldraw : Sp) : TS :=
  (tRet (tOp (rIxL K) (tVar 1) (tKn sp_ldraw (tCons (tVar 0) (tCons (tCB (fun xs H Q => ∃ p ys, xs = [.ref p] ∧ (SqL K H p ys ∨ SqT K H p ys) ∧ Q (.int ys.length) H) (tCons (tVar 1) tNil)) tNil)))))
theorem d_lpick {P : Program} {w : World} {K : PySem.W.Frag} {mg : Str → Option Value} {base : Heap} (T : Txt K mg) {sp_ldraw : Sp} {k : Nat} {k_ldraw : Nat} (l_ldraw : k_ldraw ≤ k) (C_ldraw : Kn P w K mg base CX0 k_ldraw "_law_draw" ["_law_bag_here", "_law_many"] sp_ldraw) {f : Addr} {cdv : Value} {A : Around} {outer : List Env} {s : Shared} {H : Hp} {E : XK} (hr : Room k (A.deeper (envOfC "_law_pick" (defScope s_lpick) s.heap.objs.size f cdv))) :
    PSs (cxOf (CX0) P w K mg base N_lpick "_law_pick" (defScope s_lpick) f cdv A outer s H E).nox (defBody s_lpick) (t_lpick K w sp_ldraw) :=
  (pss_one (ps_ret (pe_ix ix_list (pv 1) (pe_kn C_ldraw (hr.mono (by omega)) (by rfl) (pa_cons (pv 0) (pa_cons (pe_callB call_len_seq (by rfl) T.m_len b_len (pa_cons (pv 1) pa_nil)) pa_nil))) (fun _ _ => rfl))))

abbrev s_lmixed : Stmt := topS 26
abbrev N_lmixed : List Str := ["_law_bag_here", "_law_items", "_law_rest", "_law_found"]
theorem sc_lmixed : FnScope N_lmixed ["_law_bag_here", "_law_items"] (defScope s_lmixed) := ⟨rfl, rfl, rfl, by decide +kernel, rfl, by decide +kernel, by decide +kernel⟩
def t_lmixed (K : PySem.W.Frag) (w : World) (sp_ldraw : Sp) : TS :=
  (tSeq (tPar 2 3 (tCons (tCB (fun xs H Q => ∃ p ys, xs = [.ref p] ∧ (SqL K H p ys ∨ SqT K H p ys) ∧ ∀ l, H l = none → Q (.ref l) (upd H l (.lst ys))) (tCons (tVar 1) tNil)) (tCons (tLst tNil) tNil)))
    (tSeq (tWhile (tTest (tOp (rNeD K) (tVar 2) (tLst tNil))) (tDrop (tBM K "list" rAppend (tVar 3) (tCons (tBM K "list" rPopAt (tVar 2) (tCons (tKn sp_ldraw (tCons (tVar 0) (tCons (tCB (fun xs H Q => ∃ p ys, xs = [.ref p] ∧ (SqL K H p ys ∨ SqT K H p ys) ∧ Q (.int ys.length) H) (tCons (tVar 2) tNil)) tNil))) tNil)) tNil))))
    (tRet (tVar 3))))
theorem d_lmixed {P : Program} {w : World} {K : PySem.W.Frag} {mg : Str → Option Value} {base : Heap} (T : Txt K mg) {sp_ldraw : Sp} {k : Nat} {k_ldraw : Nat} (l_ldraw : k_ldraw ≤ k) (C_ldraw : Kn P w K mg base CX0 k_ldraw "_law_draw" ["_law_bag_here", "_law_many"] sp_ldraw) {f : Addr} {cdv : Value} {A : Around} {outer : List Env} {s : Shared} {H : Hp} {E : XK} (hr : Room k (A.deeper (envOfC "_law_mixed" (defScope s_lmixed) s.heap.objs.size f cdv))) :
    PSs (cxOf (CX0) P w K mg base N_lmixed "_law_mixed" (defScope s_lmixed) f cdv A outer s H E).nox (defBody s_lmixed) (t_lmixed K w sp_ldraw) :=
  (pss_cons (ps_par (i := 2) (j := 3) rfl sc_lmixed.nd rfl rfl (by decide) rfl rfl (pa_cons (pe_callTy call_list_of (by rfl) T.m_list b_list (pa_cons (pv 1) pa_nil)) (pa_cons (pe_lst pa_nil) pa_nil)) (by rfl))
    (pss_cons (ps_while PassesOwn.never (pt_cmpR (op_neD hr.units) (pv 2) (pe_lst pa_nil) (nomark _)) (pss_one (ps_expr (pe_bm PySem.F.plainAttrs_list PySem.F.slot_list_append PySem.F.type_list_append mt_append (pv 3) (pa_cons (pe_bm PySem.F.plainAttrs_list PySem.F.slot_list_pop PySem.F.type_list_pop mt_popAt (pv 2) (pa_cons (pe_kn C_ldraw (hr.mono (by omega)) (by rfl) (pa_cons (pv 0) (pa_cons (pe_callB call_len_seq (by rfl) T.m_len b_len (pa_cons (pv 2) pa_nil)) pa_nil))) pa_nil)) pa_nil)))))
    (pss_one (ps_ret (pv 3)))))

abbrev s_lbuttons : Stmt := topS 27
abbrev N_lbuttons : List Str := ["_law_bag_here", "_law_many", "_law_rest", "_law_found", "_law_turn"]
theorem sc_lbuttons : FnScope N_lbuttons ["_law_bag_here", "_law_many"] (defScope s_lbuttons) := ⟨rfl, rfl, rfl, by decide +kernel, rfl, by decide +kernel, by decide +kernel⟩
def t_lbuttons (K : PySem.W.Frag) (w : World) (sp_ldraw : Sp) : TS :=
  (tSeq (tPar 2 3 (tCons (tLstRg (tRg1 (tIf (tTest (tOp rEq (tKn sp_ldraw (tCons (tVar 0) (tCons (tC (.int 4)) tNil))) (tC (.int 0)))) (tC (.int 100)) (tOp (rI0 fun i j => .int (i + j)) (tVar 1) (tC (.int 2)))))) (tCons (tLst tNil) tNil)))
    (tSeq (tFor (iRng1 (tCons (tVar 1) tNil)) (gName 4) (tDrop (tBM K "list" rAppend (tVar 3) (tCons (tBM K "list" rPopAt (tVar 2) (tCons (tKn sp_ldraw (tCons (tVar 0) (tCons (tCB (fun xs H Q => ∃ p ys, xs = [.ref p] ∧ (SqL K H p ys ∨ SqT K H p ys) ∧ Q (.int ys.length) H) (tCons (tVar 2) tNil)) tNil))) tNil)) tNil))))
    (tRet (tCB (rSortedI K) (tCons (tVar 3) tNil)))))
theorem d_lbuttons {P : Program} {w : World} {K : PySem.W.Frag} {mg : Str → Option Value} {base : Heap} (T : Txt K mg) {sp_ldraw : Sp} {k : Nat} {k_ldraw : Nat} (l_ldraw : k_ldraw ≤ k) (C_ldraw : Kn P w K mg base CX0 k_ldraw "_law_draw" ["_law_bag_here", "_law_many"] sp_ldraw) {f : Addr} {cdv : Value} {A : Around} {outer : List Env} {s : Shared} {H : Hp} {E : XK} (hr : Room k (A.deeper (envOfC "_law_buttons" (defScope s_lbuttons) s.heap.objs.size f cdv))) :
    PSs (cxOf (CX0) P w K mg base N_lbuttons "_law_buttons" (defScope s_lbuttons) f cdv A outer s H E).nox (defBody s_lbuttons) (t_lbuttons K w sp_ldraw) :=
  (pss_cons (ps_par (i := 2) (j := 3) rfl sc_lbuttons.nd rfl rfl (by decide) rfl rfl (pa_cons (pe_listRg rfl (by rfl) T.m_list (prg_1 (by rfl) T.m_range (pe_ifExp (pt_cmpR op_eq (pe_kn C_ldraw (hr.mono (by omega)) (by rfl) (pa_cons (pv 0) (pa_cons pe_int pa_nil))) pe_int (nomark _)) pe_int (pe_op op_add (pv 1) pe_int)))) (pa_cons (pe_lst pa_nil) pa_nil)) (by rfl))
    (pss_cons (ps_for PassesOwn.never rfl (pi_range1 (by rfl) T.m_range (pa_cons (pv 1) pa_nil)) (pg_name (i := 4) sc_lbuttons.nd rfl (Or.inl rfl)) (pss_one (ps_expr (pe_bm PySem.F.plainAttrs_list PySem.F.slot_list_append PySem.F.type_list_append mt_append (pv 3) (pa_cons (pe_bm PySem.F.plainAttrs_list PySem.F.slot_list_pop PySem.F.type_list_pop mt_popAt (pv 2) (pa_cons (pe_kn C_ldraw (hr.mono (by omega)) (by rfl) (pa_cons (pv 0) (pa_cons (pe_callB call_len_seq (by rfl) T.m_len b_len (pa_cons (pv 2) pa_nil)) pa_nil))) pa_nil)) pa_nil)))))
    (pss_one (ps_ret (pe_callB cr_sortedI (by rfl) T.m_sorted b_sorted (pa_cons (pv 3) pa_nil))))))

end K19

namespace K19
open PySem PySem.Spec PyProof.Rows L2
abbrev s_ltree : Stmt := topS 28
abbrev N_ltree : List Str := ["_law_bag_here", "_law_row", "_law_deep", "_law_many", "_law_rest", "_law_found", "_law_turn", "_law_size"]
theorem sc_ltree : FnScope N_ltree ["_law_bag_here", "_law_row", "_law_deep"] (defScope s_ltree) := ⟨rfl, rfl, rfl, by decide +kernel, rfl, by decide +kernel, by decide +kernel⟩
def t_ltree (K : PySem.W.Frag) (w : World) (sp_ldraw sp_lpick sp_ltree : Sp) : TS :=
  (tSeq (tIfS (tOr (tTest (tOp rEq (tVar 2) (tC (.int 0)))) (tAnd (tTest (tOp rEq (tCB (fun xs H Q => ∃ p ys, xs = [.ref p] ∧ (SqL K H p ys ∨ SqT K H p ys) ∧ Q (.int ys.length) H) (tCons (tVar 1) tNil)) (tC (.int 1)))) (tTest (tOp (rI0 fun i j => .bl (decide (j < i))) (tKn sp_ldraw (tCons (tVar 0) (tCons (tC (.int 5)) tNil))) (tC (.int 0)))))) (tRet (tIf (tTest (tOp rEq (tCB (fun xs H Q => ∃ p ys, xs = [.ref p] ∧ (SqL K H p ys ∨ SqT K H p ys) ∧ Q (.int ys.length) H) (tCons (tVar 1) tNil)) (tC (.int 1)))) (tOp (rIxL K) (tVar 1) (tC (.int 0))) (tTup (tCons (tOp (rI0 fun i j => .int (i + j)) (tC (.int 1)) (tKn sp_ldraw (tCons (tVar 0) (tCons (tCB (fun xs H Q => ∃ p ys, xs = [.ref p] ∧ (SqL K H p ys ∨ SqT K H p ys) ∧ Q (.int ys.length) H) (tCons (tVar 1) tNil)) tNil)))) (tCons (tCB (fun xs H Q => ∃ p ys, xs = [.ref p] ∧ ((SqL K H p ys ∧ ∀ l, H l = none → Q (.ref l) (upd H l (.tup ys))) ∨ (SqT K H p ys ∧ Q (.ref p) H))) (tCons (tVar 1) tNil)) tNil))))) tNext)
    (tSeq (tPar3 3 4 5 (tCons (tCB (fun xs H Q => ∃ i j, xs = [.int i, .int j] ∧ Q (.int (if j < i then j else i)) H) (tCons (tCB (fun xs H Q => ∃ p ys, xs = [.ref p] ∧ (SqL K H p ys ∨ SqT K H p ys) ∧ Q (.int ys.length) H) (tCons (tVar 1) tNil)) (tCons (tKn sp_lpick (tCons (tVar 0) (tCons (tLst (tCons (tC (.int 1)) (tCons (tC (.int 2)) (tCons (tC (.int 2)) (tCons (tC (.int 3)) (tCons (tC (.int 3)) (tCons (tC (.int 4)) (tCons (tC (.int 5)) tNil)))))))) tNil))) tNil))) (tCons (tCB (fun xs H Q => ∃ p ys, xs = [.ref p] ∧ (SqL K H p ys ∨ SqT K H p ys) ∧ ∀ l, H l = none → Q (.ref l) (upd H l (.lst ys))) (tCons (tVar 1) tNil)) (tCons (tLst tNil) tNil))))
    (tSeq (tFor (iRng1 (tCons (tVar 3) tNil)) (gName 6) (tSeq (tAsg (tIf (tTest (tOp rEq (tVar 6) (tOp (rI0 fun i j => .int (i - j)) (tVar 3) (tC (.int 1))))) (tCB (fun xs H Q => ∃ p ys, xs = [.ref p] ∧ (SqL K H p ys ∨ SqT K H p ys) ∧ Q (.int ys.length) H) (tCons (tVar 4) tNil)) (tOp (rI0 fun i j => .int (i + j)) (tC (.int 1)) (tKn sp_ldraw (tCons (tVar 0) (tCons (tOp (rI0 fun i j => .int (i + j)) (tOp (rI0 fun i j => .int (i + j)) (tOp (rI0 fun i j => .int (i - j)) (tCB (fun xs H Q => ∃ p ys, xs = [.ref p] ∧ (SqL K H p ys ∨ SqT K H p ys) ∧ Q (.int ys.length) H) (tCons (tVar 4) tNil)) (tVar 3)) (tVar 6)) (tC (.int 1))) tNil))))) (gName 7))
    (tSeq (tDrop (tBM K "list" rAppend (tVar 5) (tCons (tKn sp_ltree (tCons (tVar 0) (tCons (tSl (rSlL K) (tVar 4) tNoPart (tPart (tVar 7))) (tCons (tOp (rI0 fun i j => .int (i - j)) (tVar 2) (tC (.int 1))) tNil)))) tNil)))
    (tAsg (tSl (rSlL K) (tVar 4) (tPart (tVar 7)) tNoPart) (gName 4)))))
    (tRet (tTup (tCons (tOp (rI0 fun i j => .int (i + j)) (tC (.int 1)) (tKn sp_ldraw (tCons (tVar 0) (tCons (tVar 3) tNil)))) (tCons (tCB (fun xs H Q => ∃ p ys, xs = [.ref p] ∧ ((SqL K H p ys ∧ ∀ l, H l = none → Q (.ref l) (upd H l (.tup ys))) ∨ (SqT K H p ys ∧ Q (.ref p) H))) (tCons (tVar 5) tNil)) tNil)))))))
theorem d_ltree {P : Program} {w : World} {K : PySem.W.Frag} {mg : Str → Option Value} {base : Heap} (T : Txt K mg) {sp_ldraw sp_lpick sp_ltree : Sp} {k : Nat} {k_ldraw : Nat} (l_ldraw : k_ldraw ≤ k) (C_ldraw : Kn P w K mg base CX0 k_ldraw "_law_draw" ["_law_bag_here", "_law_many"] sp_ldraw) {k_lpick : Nat} (l_lpick : k_lpick ≤ k) (C_lpick : Kn P w K mg base CX0 k_lpick "_law_pick" ["_law_bag_here", "_law_items"] sp_lpick) {k_ltree : Nat} (l_ltree : k_ltree ≤ k) (C_ltree : Kn P w K mg base CX0 k_ltree "_law_tree" ["_law_bag_here", "_law_row", "_law_deep"] sp_ltree) {f : Addr} {cdv : Value} {A : Around} {outer : List Env} {s : Shared} {H : Hp} {E : XK} (hr : Room k (A.deeper (envOfC "_law_tree" (defScope s_ltree) s.heap.objs.size f cdv))) :
    PSs (cxOf (CX0) P w K mg base N_ltree "_law_tree" (defScope s_ltree) f cdv A outer s H E).nox (defBody s_ltree) (t_ltree K w sp_ldraw sp_lpick sp_ltree) :=
  (pss_cons (ps_if (PW.pt (pw_or (pt_cmpR op_eq (pv 2) pe_int (nomark _)) (pw_or1 (PW.pt (pw_and (pt_cmpR op_eq (pe_callB call_len_seq (by rfl) T.m_len b_len (pa_cons (pv 1) pa_nil)) pe_int (nomark _)) (pw_and1 (pt_cmpR op_gt (pe_kn C_ldraw (hr.mono (by omega)) (by rfl) (pa_cons (pv 0) (pa_cons pe_int pa_nil))) pe_int (nomark _)))))))) (pss_one (ps_ret (pe_ifExp (pt_cmpR op_eq (pe_callB call_len_seq (by rfl) T.m_len b_len (pa_cons (pv 1) pa_nil)) pe_int (nomark _)) (pe_ix ix_list (pv 1) pe_int (fun _ _ => rfl)) (pe_tup (pa_cons (pe_op op_add pe_int (pe_kn C_ldraw (hr.mono (by omega)) (by rfl) (pa_cons (pv 0) (pa_cons (pe_callB call_len_seq (by rfl) T.m_len b_len (pa_cons (pv 1) pa_nil)) pa_nil)))) (pa_cons (pe_callTy call_tuple_of (by rfl) T.m_tuple b_tuple (pa_cons (pv 1) pa_nil)) pa_nil)))))) pss_nil)
    (pss_cons (ps_par3 (i := 3) (j := 4) (l := 5) rfl sc_ltree.nd rfl rfl rfl (by decide) (by decide) (by decide) rfl rfl rfl (pa_cons (pe_callB (call_min2 rfl) (by rfl) T.m_min b_min (pa_cons (pe_callB call_len_seq (by rfl) T.m_len b_len (pa_cons (pv 1) pa_nil)) (pa_cons (pe_kn C_lpick (hr.mono (by omega)) (by rfl) (pa_cons (pv 0) (pa_cons (pe_lst (pa_cons pe_int (pa_cons pe_int (pa_cons pe_int (pa_cons pe_int (pa_cons pe_int (pa_cons pe_int (pa_cons pe_int pa_nil)))))))) pa_nil))) pa_nil))) (pa_cons (pe_callTy call_list_of (by rfl) T.m_list b_list (pa_cons (pv 1) pa_nil)) (pa_cons (pe_lst pa_nil) pa_nil))) (by rfl))
    (pss_cons (ps_for PassesOwn.never rfl (pi_range1 (by rfl) T.m_range (pa_cons (pv 3) pa_nil)) (pg_name (i := 6) sc_ltree.nd rfl (Or.inl rfl)) (pss_cons (ps_set (i := 7) sc_ltree.nd rfl (Or.inl rfl) (pe_ifExp (pt_cmpR op_eq (pv 6) (pe_op op_sub (pv 3) pe_int) (nomark _)) (pe_callB call_len_seq (by rfl) T.m_len b_len (pa_cons (pv 4) pa_nil)) (pe_op op_add pe_int (pe_kn C_ldraw (hr.mono (by omega)) (by rfl) (pa_cons (pv 0) (pa_cons (pe_op op_add (pe_op op_add (pe_op op_sub (pe_callB call_len_seq (by rfl) T.m_len b_len (pa_cons (pv 4) pa_nil)) (pv 3)) (pv 6)) pe_int) pa_nil))))))
    (pss_cons (ps_expr (pe_bm PySem.F.plainAttrs_list PySem.F.slot_list_append PySem.F.type_list_append mt_append (pv 5) (pa_cons (pe_kn C_ltree (hr.mono (by omega)) (by rfl) (pa_cons (pv 0) (pa_cons (pe_slice sl_list (pv 4) po_none (po_some (pv 7))) (pa_cons (pe_op op_sub (pv 2) pe_int) pa_nil)))) pa_nil)))
    (pss_one (ps_set (i := 4) sc_ltree.nd rfl (Or.inl rfl) (pe_slice sl_list (pv 4) (po_some (pv 7)) po_none))))))
    (pss_one (ps_ret (pe_tup (pa_cons (pe_op op_add pe_int (pe_kn C_ldraw (hr.mono (by omega)) (by rfl) (pa_cons (pv 0) (pa_cons (pv 3) pa_nil)))) (pa_cons (pe_callTy call_tuple_of (by rfl) T.m_tuple b_tuple (pa_cons (pv 5) pa_nil)) pa_nil))))))))

abbrev s_lheld : Stmt := topS 29
abbrev N_lheld : List Str := ["_law_tree_here", "_law_found", "_law_part"]
theorem sc_lheld : FnScope N_lheld ["_law_tree_here"] (defScope s_lheld) := ⟨rfl, rfl, rfl, by decide +kernel, rfl, by decide +kernel, by decide +kernel⟩
def t_lheld (K : PySem.W.Frag) (w : World) (sp_lheld : Sp) : TS :=
  (tSeq (tIfS (tB (tCB (rIsi K) (tCons (tVar 0) (tCons (tC (.ty "int")) tNil)))) (tRet (tLst (tCons (tVar 0) tNil))) tNext)
    (tSeq (tAsg (tLst tNil) (gName 1))
    (tSeq (tFor (iTup K (tOp (rIxT K) (tVar 0) (tC (.int 1)))) (gName 2) (tAsg (tOp rCat (tVar 1) (tKn sp_lheld (tCons (tVar 2) tNil))) (gName 1)))
    (tRet (tVar 1)))))
theorem d_lheld {P : Program} {w : World} {K : PySem.W.Frag} {mg : Str → Option Value} {base : Heap} (T : Txt K mg) {sp_lheld : Sp} {k : Nat} {k_lheld : Nat} (l_lheld : k_lheld ≤ k) (C_lheld : Kn P w K mg base CX0 k_lheld "_law_held" ["_law_tree_here"] sp_lheld) {f : Addr} {cdv : Value} {A : Around} {outer : List Env} {s : Shared} {H : Hp} {E : XK} (hr : Room k (A.deeper (envOfC "_law_held" (defScope s_lheld) s.heap.objs.size f cdv))) :
    PSs (cxOf (CX0) P w K mg base N_lheld "_law_held" (defScope s_lheld) f cdv A outer s H E).nox (defBody s_lheld) (t_lheld K w sp_lheld) :=
  (pss_cons (ps_if (pt_val (pe_callB call_isi (by rfl) T.m_isinstance b_isinstance (pa_cons (pv 0) (pa_cons (pe_bltn (v := .ty "int") (by rfl) T.m_int b_int rfl) pa_nil)))) (pss_one (ps_ret (pe_lst (pa_cons (pv 0) pa_nil)))) pss_nil)
    (pss_cons (ps_set (i := 1) sc_lheld.nd rfl (Or.inl rfl) (pe_lst pa_nil))
    (pss_cons (ps_for PassesOwn.never rfl (pi_tup (pe_ix ix_tup (pv 0) pe_int (fun _ _ => rfl))) (pg_name (i := 2) sc_lheld.nd rfl (Or.inl rfl)) (pss_one (ps_set (i := 1) sc_lheld.nd rfl (Or.inl rfl) (pe_op op_cat (pv 1) (pe_kn C_lheld (hr.mono (by omega)) (by rfl) (pa_cons (pv 2) pa_nil))))))
    (pss_one (ps_ret (pv 1))))))

abbrev s_levery : Stmt := topS 30
abbrev N_levery : List Str := ["_law_row", "_law_found", "_law_button", "_law_some"]
theorem sc_levery : FnScope N_levery ["_law_row"] (defScope s_levery) := ⟨rfl, rfl, rfl, by decide +kernel, rfl, by decide +kernel, by decide +kernel⟩
def t_levery (K : PySem.W.Frag) (w : World) : TS :=
  (tSeq (tAsg (tLst (tCons (tTup tNil) tNil)) (gName 1))
    (tSeq (tFor (iList K (tVar 0)) (gName 2) (tAsg (tOp rCat (tVar 1) (tLc (iList K (tVar 1)) (gName 3) tYes (tOp (rCatA K) (tVar 3) (tTup (tCons (tVar 2) tNil))) [3])) (gName 1)))
    (tRet (tVar 1))))
theorem d_levery {P : Program} {w : World} {K : PySem.W.Frag} {mg : Str → Option Value} {base : Heap} (T : Txt K mg) {k : Nat} {f : Addr} {cdv : Value} {A : Around} {outer : List Env} {s : Shared} {H : Hp} {E : XK} (hr : Room k (A.deeper (envOfC "_law_every" (defScope s_levery) s.heap.objs.size f cdv))) :
    PSs (cxOf (CX0) P w K mg base N_levery "_law_every" (defScope s_levery) f cdv A outer s H E).nox (defBody s_levery) (t_levery K w) :=
  (pss_cons (ps_set (i := 1) sc_levery.nd rfl (Or.inl rfl) (pe_lst (pa_cons (pe_tup pa_nil) pa_nil)))
    (pss_cons (ps_for PassesOwn.never rfl (pi_list (pv 0)) (pg_name (i := 2) sc_levery.nd rfl (Or.inr rfl)) (pss_one (ps_set (i := 1) sc_levery.nd rfl (Or.inl rfl) (pe_op op_cat (pv 1) (pe_lc (own := [("_law_some", 3)]) (g := (gName 3)) (tt := tYes) (te := (tOp (rCatA K) (tVar 3) (tTup (tCons (tVar 2) tNil)))) rfl sc_levery.nd (pi_list (pv 1)) (blkOk_by (own := [("_law_some", 3)]) (N := N_levery) (sc := defScope s_levery) (by decide +kernel)) (fun _ _ _ _ _ => (pg_name (i := 3) sc_levery.nd rfl (Or.inl rfl))) (fun _ _ _ _ _ => pts_nil) (fun _ _ _ _ _ => (pe_op op_catA (pv 3) (pe_tup (pa_cons (pv 2) pa_nil)))))))))
    (pss_one (ps_ret (pv 1)))))

abbrev s_lwords : Stmt := topS 31
abbrev N_lwords : List Str := ["_law_tree_here", "_law_every_here", "_law_total", "_law_part", "_law_some", "_law_much", "_law_word"]
theorem sc_lwords : FnScope N_lwords ["_law_tree_here", "_law_every_here"] (defScope s_lwords) := ⟨rfl, rfl, rfl, by decide +kernel, rfl, by decide +kernel, by decide +kernel⟩
def t_lwords (K : PySem.W.Frag) (w : World) (sp_lwords : Sp) : TS :=
  (tSeq (tIfS (tB (tCB (rIsi K) (tCons (tVar 0) (tCons (tC (.ty "int")) tNil)))) (tRet (tLc (iList K (tVar 1)) (gName 4) tYes (tOp (rIn K false) (tVar 0) (tVar 4)) [4])) tNext)
    (tSeq (tAsg (tOp rRep (tLst (tCons (tC (.int 0)) tNil)) (tCB (fun xs H Q => ∃ p ys, xs = [.ref p] ∧ (SqL K H p ys ∨ SqT K H p ys) ∧ Q (.int ys.length) H) (tCons (tVar 1) tNil))) (gName 2))
    (tSeq (tFor (iTup K (tOp (rIxT K) (tVar 0) (tC (.int 1)))) (gName 3) (tAsg (tLc (iZip K (tCons (tVar 2) (tCons (tKn sp_lwords (tCons (tVar 3) (tCons (tVar 1) tNil))) tNil))) (gTup K 2 (gCons (gName 5) (gCons (gName 6) gNil))) tYes (tOp (rI0 fun i j => .int (i + j)) (tVar 5) (tCB (fun xs H Q => (∃ i, xs = [.int i] ∧ Q (.int i) H) ∨ ∃ k, xs = [.bl k] ∧ Q (.int (if k then 1 else 0)) H) (tCons (tVar 6) tNil))) [5, 6]) (gName 2)))
    (tRet (tLc (iList K (tVar 2)) (gName 5) tYes (tOp (rI0 fun i j => .bl (decide (j ≤ i))) (tVar 5) (tOp (rIxT K) (tVar 0) (tC (.int 0)))) [5])))))
theorem d_lwords {P : Program} {w : World} {K : PySem.W.Frag} {mg : Str → Option Value} {base : Heap} (T : Txt K mg) {sp_lwords : Sp} {k : Nat} {k_lwords : Nat} (l_lwords : k_lwords ≤ k) (C_lwords : Kn P w K mg base CX0 k_lwords "_law_words" ["_law_tree_here", "_law_every_here"] sp_lwords) {f : Addr} {cdv : Value} {A : Around} {outer : List Env} {s : Shared} {H : Hp} {E : XK} (hr : Room k (A.deeper (envOfC "_law_words" (defScope s_lwords) s.heap.objs.size f cdv))) :
    PSs (cxOf (CX0) P w K mg base N_lwords "_law_words" (defScope s_lwords) f cdv A outer s H E).nox (defBody s_lwords) (t_lwords K w sp_lwords) :=
  (pss_cons (ps_if (pt_val (pe_callB call_isi (by rfl) T.m_isinstance b_isinstance (pa_cons (pv 0) (pa_cons (pe_bltn (v := .ty "int") (by rfl) T.m_int b_int rfl) pa_nil)))) (pss_one (ps_ret (pe_lc (own := [("_law_some", 4)]) (g := (gName 4)) (tt := tYes) (te := (tOp (rIn K false) (tVar 0) (tVar 4))) rfl sc_lwords.nd (pi_list (pv 1)) (blkOk_by (own := [("_law_some", 4)]) (N := N_lwords) (sc := defScope s_lwords) (by decide +kernel)) (fun _ _ _ _ _ => (pg_name (i := 4) sc_lwords.nd rfl (Or.inl rfl))) (fun _ _ _ _ _ => pts_nil) (fun _ _ _ _ _ => (pe_cmpR op_in_seq (pv 0) (pv 4) (by rfl)))))) pss_nil)
    (pss_cons (ps_set (i := 2) sc_lwords.nd rfl (Or.inl rfl) (pe_op op_rep (pe_lst (pa_cons pe_int pa_nil)) (pe_callB call_len_seq (by rfl) T.m_len b_len (pa_cons (pv 1) pa_nil))))
    (pss_cons (ps_for PassesOwn.never rfl (pi_tup (pe_ix ix_tup (pv 0) pe_int (fun _ _ => rfl))) (pg_name (i := 3) sc_lwords.nd rfl (Or.inl rfl)) (pss_one (ps_setLc (i := 2) (own := [("_law_much", 5), ("_law_word", 6)]) (g := (gTup K 2 (gCons (gName 5) (gCons (gName 6) gNil)))) (tt := tYes) (te := (tOp (rI0 fun i j => .int (i + j)) (tVar 5) (tCB (fun xs H Q => (∃ i, xs = [.int i] ∧ Q (.int i) H) ∨ ∃ k, xs = [.bl k] ∧ Q (.int (if k then 1 else 0)) H) (tCons (tVar 6) tNil)))) rfl sc_lwords.nd rfl rfl (sw_true rfl rfl rfl (by decide +kernel)) (pi_zip (by rfl) T.m_zip (pa_cons (pv 2) (pa_cons (pe_kn C_lwords (hr.mono (by omega)) (by rfl) (pa_cons (pv 3) (pa_cons (pv 1) pa_nil))) pa_nil))) (blkOk_by (own := [("_law_much", 5), ("_law_word", 6)]) (N := N_lwords) (sc := defScope s_lwords) (by decide +kernel)) (fun _ _ _ _ _ => (pg_tup rfl (pgs_cons (pg_name (i := 5) sc_lwords.nd rfl (Or.inl rfl)) (pgs_cons (pg_name (i := 6) sc_lwords.nd rfl (Or.inl rfl)) pgs_nil)))) (fun _ _ _ _ _ => pts_nil) (fun _ _ _ _ _ => (pe_op op_add (pv 5) (pe_callTy call_int1 (by rfl) T.m_int b_int (pa_cons (pv 6) pa_nil)))))))
    (pss_one (ps_ret (pe_lc (own := [("_law_much", 5)]) (g := (gName 5)) (tt := tYes) (te := (tOp (rI0 fun i j => .bl (decide (j ≤ i))) (tVar 5) (tOp (rIxT K) (tVar 0) (tC (.int 0))))) rfl sc_lwords.nd (pi_list (pv 2)) (blkOk_by (own := [("_law_much", 5)]) (N := N_lwords) (sc := defScope s_lwords) (by decide +kernel)) (fun _ _ _ _ _ => (pg_name (i := 5) sc_lwords.nd rfl (Or.inl rfl))) (fun _ _ _ _ _ => pts_nil) (fun _ _ _ _ _ => (pe_cmpR op_ge (pv 5) (pe_ix ix_tup (pv 0) pe_int (fun _ _ => rfl)) (nomark _)))))))))

abbrev s_lgoes : Stmt := topS 32
abbrev N_lgoes : List Str := ["_law_tree_here", "_law_some", "_law_part"]
theorem sc_lgoes : FnScope N_lgoes ["_law_tree_here", "_law_some"] (defScope s_lgoes) := ⟨rfl, rfl, rfl, by decide +kernel, rfl, by decide +kernel, by decide +kernel⟩
def t_lgoes (K : PySem.W.Frag) (w : World) (sp_lgoes : Sp) : TS :=
  (tSeq (tIfS (tB (tCB (rIsi K) (tCons (tVar 0) (tCons (tC (.ty "int")) tNil)))) (tRet (tOp (rIn K false) (tVar 0) (tVar 1))) tNext)
    (tRet (tOp (rI0 fun i j => .bl (decide (j ≤ i))) (tCB (fun xs H Q => ∃ p ys, xs = [.ref p] ∧ (SqL K H p ys ∨ SqT K H p ys) ∧ Q (.int ys.length) H) (tCons (tLc (iTup K (tOp (rIxT K) (tVar 0) (tC (.int 1)))) (gName 2) (tB (tKn sp_lgoes (tCons (tVar 2) (tCons (tVar 1) tNil)))) (tC (.int 1)) [2]) tNil)) (tOp (rIxT K) (tVar 0) (tC (.int 0))))))
theorem d_lgoes {P : Program} {w : World} {K : PySem.W.Frag} {mg : Str → Option Value} {base : Heap} (T : Txt K mg) {sp_lgoes : Sp} {k : Nat} {k_lgoes : Nat} (l_lgoes : k_lgoes ≤ k) (C_lgoes : Kn P w K mg base CX0 k_lgoes "_law_goes" ["_law_tree_here", "_law_some"] sp_lgoes) {f : Addr} {cdv : Value} {A : Around} {outer : List Env} {s : Shared} {H : Hp} {E : XK} (hr : Room k (A.deeper (envOfC "_law_goes" (defScope s_lgoes) s.heap.objs.size f cdv))) :
    PSs (cxOf (CX0) P w K mg base N_lgoes "_law_goes" (defScope s_lgoes) f cdv A outer s H E).nox (defBody s_lgoes) (t_lgoes K w sp_lgoes) :=
  (pss_cons (ps_if (pt_val (pe_callB call_isi (by rfl) T.m_isinstance b_isinstance (pa_cons (pv 0) (pa_cons (pe_bltn (v := .ty "int") (by rfl) T.m_int b_int rfl) pa_nil)))) (pss_one (ps_ret (pe_cmpR op_in_seq (pv 0) (pv 1) (by rfl)))) pss_nil)
    (pss_one (ps_ret (pe_cmpR op_ge (pe_callB call_len_seq (by rfl) T.m_len b_len (pa_cons (pe_lc (own := [("_law_part", 2)]) (g := (gName 2)) (tt := (tB (tKn sp_lgoes (tCons (tVar 2) (tCons (tVar 1) tNil))))) (te := (tC (.int 1))) rfl sc_lgoes.nd (pi_tup (pe_ix ix_tup (pv 0) pe_int (fun _ _ => rfl))) (blkOk_by (own := [("_law_part", 2)]) (N := N_lgoes) (sc := defScope s_lgoes) (by decide +kernel)) (fun _ _ _ _ _ => (pg_name (i := 2) sc_lgoes.nd rfl (Or.inl rfl))) (fun _ _ _ _ _ => (pts_one (pt_val (pe_kn C_lgoes (hr.mono (by omega)) (by rfl) (pa_cons (pv 2) (pa_cons (pv 1) pa_nil)))))) (fun _ _ _ _ _ => pe_int)) pa_nil)) (pe_ix ix_tup (pv 0) pe_int (fun _ _ => rfl)) (nomark _)))))

end K19

namespace K19
open PySem PySem.Spec PyProof.Rows L2
abbrev s_lsides : Stmt := topS 33
abbrev N_lsides : List Str := ["_law_tree_here", "_law_must", "_law_never", "_law_some", "_law_part", "_law_up", "_law_down", "_law_longer", "_law_at", "_law_much"]
theorem sc_lsides : FnScope N_lsides ["_law_tree_here", "_law_must", "_law_never"] (defScope s_lsides) := ⟨rfl, rfl, rfl, by decide +kernel, rfl, by decide +kernel, by decide +kernel⟩
def t_lsides (K : PySem.W.Frag) (w : World) (sp_lsides : Sp) : TS :=
  (tSeq (tIfS (tB (tCB (rIsi K) (tCons (tVar 0) (tCons (tC (.ty "int")) tNil)))) (tRet (tTup (tCons (tCB (fun xs H Q => (∃ i, xs = [.int i] ∧ Q (.int i) H) ∨ ∃ k, xs = [.bl k] ∧ Q (.int (if k then 1 else 0)) H) (tCons (tOp (rIn K true) (tVar 0) (tVar 2)) tNil)) (tCons (tCB (fun xs H Q => (∃ i, xs = [.int i] ∧ Q (.int i) H) ∨ ∃ k, xs = [.bl k] ∧ Q (.int (if k then 1 else 0)) H) (tCons (tOp (rIn K true) (tVar 0) (tVar 1)) tNil)) tNil)))) tNext)
    (tSeq (tAsg (tLst (tCons (tC (.int 1)) tNil)) (gName 3))
    (tSeq (tFor (iTup K (tOp (rIxT K) (tVar 0) (tC (.int 1)))) (gName 4) (tSeq (tAsg (tKn sp_lsides (tCons (tVar 4) (tCons (tVar 1) (tCons (tVar 2) tNil)))) (gTup K 2 (gCons (gName 5) (gCons (gName 6) gNil))))
    (tSeq (tAsg (tOp rRep (tLst (tCons (tC (.int 0)) tNil)) (tOp (rI0 fun i j => .int (i + j)) (tCB (fun xs H Q => ∃ p ys, xs = [.ref p] ∧ (SqL K H p ys ∨ SqT K H p ys) ∧ Q (.int ys.length) H) (tCons (tVar 3) tNil)) (tC (.int 1)))) (gName 7))
    (tSeq (tFor (iEnum K (tCons (tVar 3) tNil)) (gTup K 2 (gCons (gName 8) (gCons (gName 9) gNil))) (tSeq (tAsg (tOp (rI0 fun i j => .int (i + j)) (tOp (rIxL K) (tVar 7) (tVar 8)) (tOp (rI CMul fun i j => .int (i * j)) (tVar 9) (tVar 6))) (gSub (tVar 7) (tVar 8) rSetL))
    (tAsg (tOp (rI0 fun i j => .int (i + j)) (tOp (rIxL K) (tVar 7) (tOp (rI0 fun i j => .int (i + j)) (tVar 8) (tC (.int 1)))) (tOp (rI CMul fun i j => .int (i * j)) (tVar 9) (tVar 5))) (gSub (tVar 7) (tOp (rI0 fun i j => .int (i + j)) (tVar 8) (tC (.int 1))) rSetL))))
    (tAsg (tVar 7) (gName 3))))))
    (tRet (tTup (tCons (tCB (rSum K) (tCons (tSl (rSlL K) (tVar 3) (tPart (tOp (rIxT K) (tVar 0) (tC (.int 0)))) tNoPart) tNil)) (tCons (tCB (rSum K) (tCons (tSl (rSlL K) (tVar 3) tNoPart (tPart (tOp (rIxT K) (tVar 0) (tC (.int 0))))) tNil)) tNil)))))))
theorem d_lsides {P : Program} {w : World} {K : PySem.W.Frag} {mg : Str → Option Value} {base : Heap} (T : Txt K mg) {sp_lsides : Sp} {k : Nat} {k_lsides : Nat} (l_lsides : k_lsides ≤ k) (C_lsides : Kn P w K mg base CX0 k_lsides "_law_sides" ["_law_tree_here", "_law_must", "_law_never"] sp_lsides) {f : Addr} {cdv : Value} {A : Around} {outer : List Env} {s : Shared} {H : Hp} {E : XK} (hr : Room k (A.deeper (envOfC "_law_sides" (defScope s_lsides) s.heap.objs.size f cdv))) :
    PSs (cxOf (CX0) P w K mg base N_lsides "_law_sides" (defScope s_lsides) f cdv A outer s H E).nox (defBody s_lsides) (t_lsides K w sp_lsides) :=
  (pss_cons (ps_if (pt_val (pe_callB call_isi (by rfl) T.m_isinstance b_isinstance (pa_cons (pv 0) (pa_cons (pe_bltn (v := .ty "int") (by rfl) T.m_int b_int rfl) pa_nil)))) (pss_one (ps_ret (pe_tup (pa_cons (pe_callTy call_int1 (by rfl) T.m_int b_int (pa_cons (pe_cmpR op_notIn_seq (pv 0) (pv 2) (by rfl)) pa_nil)) (pa_cons (pe_callTy call_int1 (by rfl) T.m_int b_int (pa_cons (pe_cmpR op_notIn_seq (pv 0) (pv 1) (by rfl)) pa_nil)) pa_nil))))) pss_nil)
    (pss_cons (ps_set (i := 3) sc_lsides.nd rfl (Or.inl rfl) (pe_lst (pa_cons pe_int pa_nil)))
    (pss_cons (ps_for PassesOwn.never rfl (pi_tup (pe_ix ix_tup (pv 0) pe_int (fun _ _ => rfl))) (pg_name (i := 4) sc_lsides.nd rfl (Or.inl rfl)) (pss_cons (ps_asg (pe_kn C_lsides (hr.mono (by omega)) (by rfl) (pa_cons (pv 4) (pa_cons (pv 1) (pa_cons (pv 2) pa_nil)))) (pg_tup rfl (pgs_cons (pg_name (i := 5) sc_lsides.nd rfl (Or.inl rfl)) (pgs_cons (pg_name (i := 6) sc_lsides.nd rfl (Or.inl rfl)) pgs_nil))))
    (pss_cons (ps_set (i := 7) sc_lsides.nd rfl (Or.inl rfl) (pe_op op_rep (pe_lst (pa_cons pe_int pa_nil)) (pe_op op_add (pe_callB call_len_seq (by rfl) T.m_len b_len (pa_cons (pv 3) pa_nil)) pe_int)))
    (pss_cons (ps_for PassesOwn.never rfl (pi_enum (by rfl) T.m_enumerate (pa_cons (pv 3) pa_nil)) (pg_tup rfl (pgs_cons (pg_name (i := 8) sc_lsides.nd rfl (Or.inl rfl)) (pgs_cons (pg_name (i := 9) sc_lsides.nd rfl (Or.inl rfl)) pgs_nil))) (pss_cons (ps_asg (pe_op op_add (pe_ix ix_list (pv 7) (pv 8) (fun _ _ => rfl)) (pe_op op_mul (pv 9) (pv 6))) (pg_sub (pv 7) (pv 8) set_list))
    (pss_one (ps_asg (pe_op op_add (pe_ix ix_list (pv 7) (pe_op op_add (pv 8) pe_int) (fun _ _ => rfl)) (pe_op op_mul (pv 9) (pv 5))) (pg_sub (pv 7) (pe_op op_add (pv 8) pe_int) set_list)))))
    (pss_one (ps_set (i := 3) sc_lsides.nd rfl (Or.inl rfl) (pv 7)))))))
    (pss_one (ps_ret (pe_tup (pa_cons (pe_callB (cr_sum rfl) (by rfl) T.m_sum b_sum (pa_cons (pe_slice sl_list (pv 3) (po_some (pe_ix ix_tup (pv 0) pe_int (fun _ _ => rfl))) po_none) pa_nil)) (pa_cons (pe_callB (cr_sum rfl) (by rfl) T.m_sum b_sum (pa_cons (pe_slice sl_list (pv 3) po_none (po_some (pe_ix ix_tup (pv 0) pe_int (fun _ _ => rfl)))) pa_nil)) pa_nil))))))))

abbrev s_lgmany : Stmt := topS 34
abbrev N_lgmany : List Str := ["_law_tree_here", "_law_must", "_law_never", "_law_button"]
theorem sc_lgmany : FnScope N_lgmany ["_law_tree_here", "_law_must", "_law_never"] (defScope s_lgmany) := ⟨rfl, rfl, rfl, by decide +kernel, rfl, by decide +kernel, by decide +kernel⟩
def t_lgmany (K : PySem.W.Frag) (w : World) (sp_lheld sp_lsides : Sp) : TS :=
  (tSeq (tIfS (tTest (tOp (rNeD K) (tLc (iTup K (tVar 1)) (gName 3) (tOr (tTest (tOp (rIn K false) (tVar 3) (tVar 2))) (tTest (tOp (rIn K true) (tVar 3) (tKn sp_lheld (tCons (tVar 0) tNil))))) (tC (.int 1)) [3]) (tLst tNil))) (tRet (tC (.int 0))) tNext)
    (tRet (tOp (rIxT K) (tKn sp_lsides (tCons (tVar 0) (tCons (tVar 1) (tCons (tVar 2) tNil)))) (tC (.int 0)))))
theorem d_lgmany {P : Program} {w : World} {K : PySem.W.Frag} {mg : Str → Option Value} {base : Heap} (T : Txt K mg) {sp_lheld sp_lsides : Sp} {k : Nat} {k_lheld : Nat} (l_lheld : k_lheld ≤ k) (C_lheld : Kn P w K mg base CX0 k_lheld "_law_held" ["_law_tree_here"] sp_lheld) {k_lsides : Nat} (l_lsides : k_lsides ≤ k) (C_lsides : Kn P w K mg base CX0 k_lsides "_law_sides" ["_law_tree_here", "_law_must", "_law_never"] sp_lsides) {f : Addr} {cdv : Value} {A : Around} {outer : List Env} {s : Shared} {H : Hp} {E : XK} (hr : Room k (A.deeper (envOfC "_law_going_many" (defScope s_lgmany) s.heap.objs.size f cdv))) :
    PSs (cxOf (CX0) P w K mg base N_lgmany "_law_going_many" (defScope s_lgmany) f cdv A outer s H E).nox (defBody s_lgmany) (t_lgmany K w sp_lheld sp_lsides) :=
  (pss_cons (ps_if (pt_cmpR (op_neD hr.units) (pe_lc (own := [("_law_button", 3)]) (g := (gName 3)) (tt := (tOr (tTest (tOp (rIn K false) (tVar 3) (tVar 2))) (tTest (tOp (rIn K true) (tVar 3) (tKn sp_lheld (tCons (tVar 0) tNil)))))) (te := (tC (.int 1))) rfl sc_lgmany.nd (pi_tup (pv 1)) (blkOk_by (own := [("_law_button", 3)]) (N := N_lgmany) (sc := defScope s_lgmany) (by decide +kernel)) (fun _ _ _ _ _ => (pg_name (i := 3) sc_lgmany.nd rfl (Or.inl rfl))) (fun _ _ _ _ _ => (pts_one (PW.pt (pw_or (pt_cmpR op_in_seq (pv 3) (pv 2) (by rfl)) (pw_or1 (pt_cmpR op_notIn_seq (pv 3) (pe_kn C_lheld (hr.mono (by omega)) (by rfl) (pa_cons (pv 0) pa_nil)) (by rfl))))))) (fun _ _ _ _ _ => pe_int)) (pe_lst pa_nil) (nomark _)) (pss_one (ps_ret pe_int)) pss_nil)
    (pss_one (ps_ret (pe_ix ix_tup (pe_kn C_lsides (hr.mono (by omega)) (by rfl) (pa_cons (pv 0) (pa_cons (pv 1) (pa_cons (pv 2) pa_nil)))) pe_int (fun _ _ => rfl)))))

abbrev s_lodds : Stmt := topS 35
abbrev N_lodds : List Str := ["_law_many"]
theorem sc_lodds : FnScope N_lodds ["_law_many"] (defScope s_lodds) := ⟨rfl, rfl, rfl, by decide +kernel, rfl, by decide +kernel, by decide +kernel⟩
def t_lodds (K : PySem.W.Frag) (w : World) : TS :=
  (tRet (tLst (tCons (tC .non) (tCons (tC (.bl true)) (tCons (tC (.bl false)) (tCons (tC (.str "0")) (tCons (tUn (rU fun i => .int (-i)) (tC (.int 1))) (tCons (tVar 0) (tCons (tOp (rI0 fun i j => .int (i + j)) (tVar 0) (tOp (rI CPow fun i j => .int (i ^ j.toNat)) (tC (.int 10)) (tC (.int 20)))) (tCons (tLst (tCons (tC (.int 0)) tNil)) (tCons (tTup (tCons (tC (.int 0)) tNil)) (tCons tDNewK (tCons (tTup (tCons (tC (.str "0")) tNil)) (tCons (tC (.str "")) (tCons (tTup (tCons (tTup (tCons (tC (.int 0)) tNil)) tNil)) (tCons (tLst tNil) (tCons (tUn (rU fun i => .int (-i)) (tOp (rI CPow fun i j => .int (i ^ j.toNat)) (tC (.int 10)) (tC (.int 30)))) tNil)))))))))))))))))
theorem d_lodds {P : Program} {w : World} {K : PySem.W.Frag} {mg : Str → Option Value} {base : Heap} (T : Txt K mg) {k : Nat} {f : Addr} {cdv : Value} {A : Around} {outer : List Env} {s : Shared} {H : Hp} {E : XK} (hr : Room k (A.deeper (envOfC "_law_odds" (defScope s_lodds) s.heap.objs.size f cdv))) :
    PSs (cxOf (CX0) P w K mg base N_lodds "_law_odds" (defScope s_lodds) f cdv A outer s H E).nox (defBody s_lodds) (t_lodds K w) :=
  (pss_one (ps_ret (pe_lst (pa_cons pe_non (pa_cons pe_bl (pa_cons pe_bl (pa_cons pe_str (pa_cons (pe_un un_neg pe_int) (pa_cons (pv 0) (pa_cons (pe_op op_add (pv 0) (pe_op op_pow pe_int pe_int)) (pa_cons (pe_lst (pa_cons pe_int pa_nil)) (pa_cons (pe_tup (pa_cons pe_int pa_nil)) (pa_cons pe_dnewK (pa_cons (pe_tup (pa_cons pe_str pa_nil)) (pa_cons pe_str (pa_cons (pe_tup (pa_cons (pe_tup (pa_cons pe_int pa_nil)) pa_nil)) (pa_cons (pe_lst pa_nil) (pa_cons (pe_un un_neg (pe_op op_pow pe_int pe_int)) pa_nil))))))))))))))))))

abbrev s_llot : Stmt := topS 36
abbrev N_llot : List Str := ["_law_bag_here", "_law_row", "_law_often", "_law_button"]
theorem sc_llot : FnScope N_llot ["_law_bag_here", "_law_row", "_law_often"] (defScope s_llot) := ⟨rfl, rfl, rfl, by decide +kernel, rfl, by decide +kernel, by decide +kernel⟩
def t_llot (K : PySem.W.Frag) (w : World) (sp_ldraw : Sp) : TS :=
  (tRet (tCB (fun xs H Q => ∃ p ys, xs = [.ref p] ∧ ((SqL K H p ys ∧ ∀ l, H l = none → Q (.ref l) (upd H l (.tup ys))) ∨ (SqT K H p ys ∧ Q (.ref p) H))) (tCons (tLc (iList K (tCB (rSortedI K) (tCons (tVar 1) tNil))) (gName 3) (tTest (tOp (rI0 fun i j => .bl (decide (j < i))) (tKn sp_ldraw (tCons (tVar 0) (tCons (tVar 2) tNil))) (tC (.int 0)))) (tVar 3) [3]) tNil)))
theorem d_llot {P : Program} {w : World} {K : PySem.W.Frag} {mg : Str → Option Value} {base : Heap} (T : Txt K mg) {sp_ldraw : Sp} {k : Nat} {k_ldraw : Nat} (l_ldraw : k_ldraw ≤ k) (C_ldraw : Kn P w K mg base CX0 k_ldraw "_law_draw" ["_law_bag_here", "_law_many"] sp_ldraw) {f : Addr} {cdv : Value} {A : Around} {outer : List Env} {s : Shared} {H : Hp} {E : XK} (hr : Room k (A.deeper (envOfC "_law_lot" (defScope s_llot) s.heap.objs.size f cdv))) :
    PSs (cxOf (CX0) P w K mg base N_llot "_law_lot" (defScope s_llot) f cdv A outer s H E).nox (defBody s_llot) (t_llot K w sp_ldraw) :=
  (pss_one (ps_ret (pe_callTy call_tuple_of (by rfl) T.m_tuple b_tuple (pa_cons (pe_lc (own := [("_law_button", 3)]) (g := (gName 3)) (tt := (tTest (tOp (rI0 fun i j => .bl (decide (j < i))) (tKn sp_ldraw (tCons (tVar 0) (tCons (tVar 2) tNil))) (tC (.int 0))))) (te := (tVar 3)) rfl sc_llot.nd (pi_list (pe_callB cr_sortedI (by rfl) T.m_sorted b_sorted (pa_cons (pv 1) pa_nil))) (blkOk_by (own := [("_law_button", 3)]) (N := N_llot) (sc := defScope s_llot) (by decide +kernel)) (fun _ _ _ _ _ => (pg_name (i := 3) sc_llot.nd rfl (Or.inl rfl))) (fun _ _ _ _ _ => (pts_one (pt_cmpR op_gt (pe_kn C_ldraw (hr.mono (by omega)) (by rfl) (pa_cons (pv 0) (pa_cons (pv 2) pa_nil))) pe_int (nomark _)))) (fun _ _ _ _ _ => (pv 3))) pa_nil))))

abbrev s_lnumber : Stmt := topS 38
abbrev N_lnumber : List Str := ["_law_tree_here", "_law_some", "_law_row", "_law_found", "_law_at", "_law_button", "_law_less", "_law_must", "_law_own"]
theorem sc_lnumber : FnScope N_lnumber ["_law_tree_here", "_law_some"] (defScope s_lnumber) := ⟨rfl, rfl, rfl, by decide +kernel, rfl, by decide +kernel, by decide +kernel⟩
def t_lnumber (K : PySem.W.Frag) (w : World) (sp_lheld sp_lgoes sp_lsides : Sp) : TS :=
  (tSeq (tPar 2 3 (tCons (tCB (rSortedI K) (tCons (tKn sp_lheld (tCons (tVar 0) tNil)) tNil)) (tCons (tC (.int 0)) tNil)))
    (tSeq (tFor (iEnumT K (tCons (tVar 1) tNil)) (gTup K 2 (gCons (gName 4) (gCons (gName 5) gNil))) (tSeq (tAsg (tOp (rI0 fun i j => .int (i + j)) (tVar 3) (tCB (fun xs H Q => (∃ i, xs = [.int i] ∧ Q (.int i) H) ∨ ∃ k, xs = [.bl k] ∧ Q (.int (if k then 1 else 0)) H) (tCons (tKn sp_lgoes (tCons (tVar 0) (tCons (tSl (rSlA K) (tVar 1) tNoPart (tPart (tVar 4))) tNil))) tNil))) (gName 3))
    (tFor (iList K (tVar 2)) (gName 6) (tIfS (tAnd (tTest (tOp (rI0 fun i j => .bl (decide (i < j))) (tVar 6) (tVar 5))) (tOr (tTest (tOp rEq (tVar 4) (tC (.int 0)))) (tTest (tOp (rI0 fun i j => .bl (decide (j < i))) (tVar 6) (tOp (rIxT K) (tVar 1) (tOp (rI0 fun i j => .int (i - j)) (tVar 4) (tC (.int 1)))))))) (tSeq (tAsg (tOp (rCatA K) (tSl (rSlA K) (tVar 1) tNoPart (tPart (tVar 4))) (tTup (tCons (tVar 6) tNil))) (gName 7))
    (tAsg (tOp (rI0 fun i j => .int (i + j)) (tVar 3) (tOp (rIxT K) (tKn sp_lsides (tCons (tVar 0) (tCons (tVar 7) (tCons (tLc (iList K (tVar 2)) (gName 8) (tAnd (tTest (tOp (rI0 fun i j => .bl (decide (i < j))) (tVar 8) (tVar 6))) (tTest (tOp (rIn K true) (tVar 8) (tVar 7)))) (tVar 8) [8]) tNil)))) (tC (.int 0)))) (gName 3))) tNext))))
    (tRet (tVar 3))))
theorem d_lnumber {P : Program} {w : World} {K : PySem.W.Frag} {mg : Str → Option Value} {base : Heap} (T : Txt K mg) {sp_lheld sp_lgoes sp_lsides : Sp} {k : Nat} {k_lheld : Nat} (l_lheld : k_lheld ≤ k) (C_lheld : Kn P w K mg base CX0 k_lheld "_law_held" ["_law_tree_here"] sp_lheld) {k_lgoes : Nat} (l_lgoes : k_lgoes ≤ k) (C_lgoes : Kn P w K mg base CX0 k_lgoes "_law_goes" ["_law_tree_here", "_law_some"] sp_lgoes) {k_lsides : Nat} (l_lsides : k_lsides ≤ k) (C_lsides : Kn P w K mg base CX0 k_lsides "_law_sides" ["_law_tree_here", "_law_must", "_law_never"] sp_lsides) {f : Addr} {cdv : Value} {A : Around} {outer : List Env} {s : Shared} {H : Hp} {E : XK} (hr : Room k (A.deeper (envOfC "_law_number" (defScope s_lnumber) s.heap.objs.size f cdv))) :
    PSs (cxOf (CX0) P w K mg base N_lnumber "_law_number" (defScope s_lnumber) f cdv A outer s H E).nox (defBody s_lnumber) (t_lnumber K w sp_lheld sp_lgoes sp_lsides) :=
  (pss_cons (ps_par (i := 2) (j := 3) rfl sc_lnumber.nd rfl rfl (by decide) rfl rfl (pa_cons (pe_callB cr_sortedI (by rfl) T.m_sorted b_sorted (pa_cons (pe_kn C_lheld (hr.mono (by omega)) (by rfl) (pa_cons (pv 0) pa_nil)) pa_nil)) (pa_cons pe_int pa_nil)) (by rfl))
    (pss_cons (ps_for PassesOwn.never rfl (pi_enumT (by rfl) T.m_enumerate (pa_cons (pv 1) pa_nil)) (pg_tup rfl (pgs_cons (pg_name (i := 4) sc_lnumber.nd rfl (Or.inl rfl)) (pgs_cons (pg_name (i := 5) sc_lnumber.nd rfl (Or.inl rfl)) pgs_nil))) (pss_cons (ps_set (i := 3) sc_lnumber.nd rfl (Or.inl rfl) (pe_op op_add (pv 3) (pe_callTy call_int1 (by rfl) T.m_int b_int (pa_cons (pe_kn C_lgoes (hr.mono (by omega)) (by rfl) (pa_cons (pv 0) (pa_cons (pe_slice sl_tupA (pv 1) po_none (po_some (pv 4))) pa_nil))) pa_nil))))
    (pss_one (ps_for PassesOwn.never rfl (pi_list (pv 2)) (pg_name (i := 6) sc_lnumber.nd rfl (Or.inr rfl)) (pss_one (ps_if (PW.pt (pw_and (pt_cmpR op_lt (pv 6) (pv 5) (nomark _)) (pw_and1 (PW.pt (pw_or (pt_cmpR op_eq (pv 4) pe_int (nomark _)) (pw_or1 (pt_cmpR op_gt (pv 6) (pe_ix ix_tup (pv 1) (pe_op op_sub (pv 4) pe_int) (fun _ _ => rfl)) (nomark _)))))))) (pss_cons (ps_set (i := 7) sc_lnumber.nd rfl (Or.inr rfl) (pe_op op_catA (pe_slice sl_tupA (pv 1) po_none (po_some (pv 4))) (pe_tup (pa_cons (pv 6) pa_nil))))
    (pss_one (ps_set (i := 3) sc_lnumber.nd rfl (Or.inl rfl) (pe_op op_add (pv 3) (pe_ix ix_tup (pe_kn C_lsides (hr.mono (by omega)) (by rfl) (pa_cons (pv 0) (pa_cons (pv 7) (pa_cons (pe_lc (own := [("_law_own", 8)]) (g := (gName 8)) (tt := (tAnd (tTest (tOp (rI0 fun i j => .bl (decide (i < j))) (tVar 8) (tVar 6))) (tTest (tOp (rIn K true) (tVar 8) (tVar 7))))) (te := (tVar 8)) rfl sc_lnumber.nd (pi_list (pv 2)) (blkOk_by (own := [("_law_own", 8)]) (N := N_lnumber) (sc := defScope s_lnumber) (by decide +kernel)) (fun _ _ _ _ _ => (pg_name (i := 8) sc_lnumber.nd rfl (Or.inl rfl))) (fun _ _ _ _ _ => (pts_one (PW.pt (pw_and (pt_cmpR op_lt (pv 8) (pv 6) (nomark _)) (pw_and1 (pt_cmpR op_notIn_seq (pv 8) (pv 7) (by rfl))))))) (fun _ _ _ _ _ => (pv 8))) pa_nil)))) pe_int (fun _ _ => rfl)))))) pss_nil))))))
    (pss_one (ps_ret (pv 3)))))

end K19

namespace K19
open PySem PySem.Spec PyProof.Rows L2
abbrev s_gat : Stmt := topS 20
abbrev N_gat : List Str := ["tree", "value", "lot", "never", "number", "button", "many"]
theorem sc_gat : FnScope N_gat ["tree", "value"] (defScope s_gat) := ⟨rfl, rfl, rfl, by decide +kernel, rfl, by decide +kernel, by decide +kernel⟩
def t_gat (K : PySem.W.Frag) (w : World) (sp_ispl sp_gcount sp_bof sp_goes : Sp) (U : Addr) (E : XK) : TS :=
  (tSeq (tIfS (tNot (tB (tKn sp_ispl (tCons (tVar 1) (tCons (tKn sp_gcount (tCons (tVar 0) (tCons (tTup tNil) (tCons (tTup tNil) tNil)))) tNil))))) (tUnfit U E) tNext)
    (tSeq (tPar3 2 3 4 (tCons (tTup tNil) (tCons (tTup tNil) (tCons (tVar 1) tNil))))
    (tSeq (tFor (iTup K (tKn sp_bof (tCons (tVar 0) tNil))) (gName 5) (tSeq (tAsg (tKn sp_gcount (tCons (tVar 0) (tCons (tOp (rCatA K) (tVar 2) (tTup (tCons (tVar 5) tNil))) (tCons (tVar 3) tNil)))) (gName 6))
    (tSeq (tIfS (tTest (tOp (rI0 fun i j => .bl (decide (j ≤ i))) (tVar 4) (tVar 6))) (tSeq (tAsg (tOp (rI0 fun i j => .int (i - j)) (tVar 4) (tVar 6)) (gName 4))
    (tSeq (tAsg (tOp (rCatA K) (tVar 3) (tTup (tCons (tVar 5) tNil))) (gName 3))
    tCont)) tNext)
    (tSeq (tAsg (tOp (rCatA K) (tVar 2) (tTup (tCons (tVar 5) tNil))) (gName 2))
    (tIfS (tB (tKn sp_goes (tCons (tVar 0) (tCons (tVar 2) tNil)))) (tSeq (tIfS (tTest (tOp rEq (tVar 4) (tC (.int 0)))) tBreak tNext)
    (tAsg (tOp (rI0 fun i j => .int (i - j)) (tVar 4) (tC (.int 1))) (gName 4))) tNext)))))
    (tRet (tVar 2)))))
theorem d_gat {P : Program} {w : World} {K : PySem.W.Frag} {mg : Str → Option Value} {base : Heap} (T : Txt K mg) {sp_ispl sp_gcount sp_bof sp_goes : Sp} {k : Nat} {k_ispl : Nat} (l_ispl : k_ispl ≤ k) (C_ispl : Kn P w K mg base CX0 k_ispl "is_place" ["value", "many"] sp_ispl) {k_gcount : Nat} (l_gcount : k_gcount ≤ k) (C_gcount : Kn P w K mg base CX0 k_gcount "going_count" ["tree", "must", "never"] sp_gcount) {k_bof : Nat} (l_bof : k_bof ≤ k) (C_bof : Kn P w K mg base CX0 k_bof "buttons_of" ["tree"] sp_bof) {k_goes : Nat} (l_goes : k_goes ≤ k) (C_goes : Kn P w K mg base CX0 k_goes "goes" ["tree", "lot"] sp_goes) {f : Addr} {cdv : Value} {A : Around} {outer : List Env} {s : Shared} {H : Hp} {E : XK} (hr : Room k (A.deeper (envOfC "going_at" (defScope s_gat) s.heap.objs.size f cdv))) {U fI : Addr} (UT : UnfitTxt P w K mg base U fI) (l_u : 2 ≤ k) :
    PSs (cxOf (L2.CX P w) P w K mg base N_gat "going_at" (defScope s_gat) f cdv A outer s H E) (defBody s_gat) (t_gat K w sp_ispl sp_gcount sp_bof sp_goes U E) :=
  (pss_cons (ps_if (pt_not (pt_val (pe_kn C_ispl (hr.mono (by omega)) (by rfl) (pa_cons (pv 1) (pa_cons (pe_kn C_gcount (hr.mono (by omega)) (by rfl) (pa_cons (pv 0) (pa_cons (pe_tup pa_nil) (pa_cons (pe_tup pa_nil) pa_nil)))) pa_nil))))) (pss_one (ps_unfit UT (hr.mono (by omega)) rfl (takes_of rfl rfl rfl rfl) (by rfl))) pss_nil)
    (pss_cons (ps_par3 (i := 2) (j := 3) (l := 4) rfl sc_gat.nd rfl rfl rfl (by decide) (by decide) (by decide) rfl rfl rfl (pa_cons (pe_tup pa_nil) (pa_cons (pe_tup pa_nil) (pa_cons (pv 1) pa_nil))) (by rfl))
    (pss_cons (ps_for (passes_of rfl) rfl (pi_tup (pe_kn C_bof (hr.mono (by omega)) (by rfl) (pa_cons (pv 0) pa_nil))) (pg_name (i := 5) sc_gat.nd rfl (Or.inl rfl)) (pss_cons (ps_set (i := 6) sc_gat.nd rfl (Or.inl rfl) (pe_kn C_gcount (hr.mono (by omega)) (by rfl) (pa_cons (pv 0) (pa_cons (pe_op op_catA (pv 2) (pe_tup (pa_cons (pv 5) pa_nil))) (pa_cons (pv 3) pa_nil)))))
    (pss_cons (ps_if (pt_cmpR op_ge (pv 4) (pv 6) (nomark _)) (pss_cons (ps_set (i := 4) sc_gat.nd rfl (Or.inl rfl) (pe_op op_sub (pv 4) (pv 6)))
    (pss_cons (ps_set (i := 3) sc_gat.nd rfl (Or.inl rfl) (pe_op op_catA (pv 3) (pe_tup (pa_cons (pv 5) pa_nil))))
    (pss_one ps_continue))) pss_nil)
    (pss_cons (ps_set (i := 2) sc_gat.nd rfl (Or.inl rfl) (pe_op op_catA (pv 2) (pe_tup (pa_cons (pv 5) pa_nil))))
    (pss_one (ps_if (pt_val (pe_kn C_goes (hr.mono (by omega)) (by rfl) (pa_cons (pv 0) (pa_cons (pv 2) pa_nil)))) (pss_cons (ps_if (pt_cmpR op_eq (pv 4) pe_int (nomark _)) (pss_one ps_break) pss_nil)
    (pss_one (ps_set (i := 4) sc_gat.nd rfl (Or.inl rfl) (pe_op op_sub (pv 4) pe_int)))) pss_nil))))))
    (pss_one (ps_ret (pv 2))))))

abbrev s_gnum : Stmt := topS 21
abbrev N_gnum : List Str := ["tree", "value", "buttons", "lot", "never", "number", "button"]
theorem sc_gnum : FnScope N_gnum ["tree", "value"] (defScope s_gnum) := ⟨rfl, rfl, rfl, by decide +kernel, rfl, by decide +kernel, by decide +kernel⟩
def t_gnum (K : PySem.W.Frag) (w : World) (sp_bof sp_lerr sp_goes sp_gcount : Sp) (U : Addr) (E : XK) : TS :=
  (tSeq (tAsg (tKn sp_bof (tCons (tVar 0) tNil)) (gName 2))
    (tSeq (tIfS (tOr (tTest (tOp (fun x y H Q => y = .non ∧ Q (.bl (!decide (x = .non))) H) (tKn sp_lerr (tCons (tVar 1) tNil)) (tC .non))) (tTest (tOp (rNeD K) (tLc (iTup K (tVar 1)) (gName 6) (tTest (tOp (rIn K true) (tVar 6) (tVar 2))) (tVar 6) [6]) (tLst tNil)))) (tUnfit U E) tNext)
    (tSeq (tIfS (tNot (tB (tKn sp_goes (tCons (tVar 0) (tCons (tVar 1) tNil))))) (tUnfit U E) tNext)
    (tSeq (tAsg (tTup (tCons (tTup tNil) (tCons (tTup tNil) (tCons (tC (.int 0)) tNil)))) (gTup K 3 (gCons (gName 3) (gCons (gName 4) (gCons (gName 5) gNil)))))
    (tSeq (tFor (iTup K (tVar 2)) (gName 6) (tSeq (tIfS (tTest (tOp (rIn K true) (tVar 6) (tVar 1))) (tSeq (tAsg (tOp (rI0 fun i j => .int (i + j)) (tVar 5) (tKn sp_gcount (tCons (tVar 0) (tCons (tOp (rCatA K) (tVar 3) (tTup (tCons (tVar 6) tNil))) (tCons (tVar 4) tNil))))) (gName 5))
    (tSeq (tAsg (tOp (rCatA K) (tVar 4) (tTup (tCons (tVar 6) tNil))) (gName 4))
    tCont)) tNext)
    (tSeq (tAsg (tOp (rCatA K) (tVar 3) (tTup (tCons (tVar 6) tNil))) (gName 3))
    (tSeq (tIfS (tTest (tOp (rEqD K) (tVar 3) (tVar 1))) tBreak tNext)
    (tAsg (tOp (rI0 fun i j => .int (i + j)) (tVar 5) (tCB (fun xs H Q => (∃ i, xs = [.int i] ∧ Q (.int i) H) ∨ ∃ k, xs = [.bl k] ∧ Q (.int (if k then 1 else 0)) H) (tCons (tKn sp_goes (tCons (tVar 0) (tCons (tVar 3) tNil))) tNil))) (gName 5))))))
    (tRet (tVar 5)))))))
theorem d_gnum {P : Program} {w : World} {K : PySem.W.Frag} {mg : Str → Option Value} {base : Heap} (T : Txt K mg) {sp_bof sp_lerr sp_goes sp_gcount : Sp} {k : Nat} {k_bof : Nat} (l_bof : k_bof ≤ k) (C_bof : Kn P w K mg base CX0 k_bof "buttons_of" ["tree"] sp_bof) {k_lerr : Nat} (l_lerr : k_lerr ≤ k) (C_lerr : Kn P w K mg base CX0 k_lerr "lot_error" ["value"] sp_lerr) {k_goes : Nat} (l_goes : k_goes ≤ k) (C_goes : Kn P w K mg base CX0 k_goes "goes" ["tree", "lot"] sp_goes) {k_gcount : Nat} (l_gcount : k_gcount ≤ k) (C_gcount : Kn P w K mg base CX0 k_gcount "going_count" ["tree", "must", "never"] sp_gcount) {f : Addr} {cdv : Value} {A : Around} {outer : List Env} {s : Shared} {H : Hp} {E : XK} (hr : Room k (A.deeper (envOfC "going_number" (defScope s_gnum) s.heap.objs.size f cdv))) {U fI : Addr} (UT : UnfitTxt P w K mg base U fI) (l_u : 2 ≤ k) :
    PSs (cxOf (L2.CX P w) P w K mg base N_gnum "going_number" (defScope s_gnum) f cdv A outer s H E) (defBody s_gnum) (t_gnum K w sp_bof sp_lerr sp_goes sp_gcount U E) :=
  (pss_cons (ps_set (i := 2) sc_gnum.nd rfl (Or.inr rfl) (pe_kn C_bof (hr.mono (by omega)) (by rfl) (pa_cons (pv 0) pa_nil)))
    (pss_cons (ps_if (PW.pt (pw_or (pt_cmpR op_notN (pe_kn C_lerr (hr.mono (by omega)) (by rfl) (pa_cons (pv 1) pa_nil)) pe_non (nomark _)) (pw_or1 (pt_cmpR (op_neD hr.units) (pe_lc (own := [("button", 6)]) (g := (gName 6)) (tt := (tTest (tOp (rIn K true) (tVar 6) (tVar 2)))) (te := (tVar 6)) rfl sc_gnum.nd (pi_tup (pv 1)) (blkOk_by (own := [("button", 6)]) (N := N_gnum) (sc := defScope s_gnum) (by decide +kernel)) (fun _ _ _ _ _ => (pg_name (i := 6) sc_gnum.nd rfl (Or.inl rfl))) (fun _ _ _ _ _ => (pts_one (pt_cmpR op_notIn_seq (pv 6) (pv 2) (by rfl)))) (fun _ _ _ _ _ => (pv 6))) (pe_lst pa_nil) (nomark _))))) (pss_one (ps_unfit UT (hr.mono (by omega)) rfl (takes_of rfl rfl rfl rfl) (by rfl))) pss_nil)
    (pss_cons (ps_if (pt_not (pt_val (pe_kn C_goes (hr.mono (by omega)) (by rfl) (pa_cons (pv 0) (pa_cons (pv 1) pa_nil))))) (pss_one (ps_unfit UT (hr.mono (by omega)) rfl (takes_of rfl rfl rfl rfl) (by rfl))) pss_nil)
    (pss_cons (ps_asg (pe_tup (pa_cons (pe_tup pa_nil) (pa_cons (pe_tup pa_nil) (pa_cons pe_int pa_nil)))) (pg_tup rfl (pgs_cons (pg_name (i := 3) sc_gnum.nd rfl (Or.inl rfl)) (pgs_cons (pg_name (i := 4) sc_gnum.nd rfl (Or.inl rfl)) (pgs_cons (pg_name (i := 5) sc_gnum.nd rfl (Or.inl rfl)) pgs_nil)))))
    (pss_cons (ps_for (passes_of rfl) rfl (pi_tup (pv 2)) (pg_name (i := 6) sc_gnum.nd rfl (Or.inl rfl)) (pss_cons (ps_if (pt_cmpR op_notIn_seq (pv 6) (pv 1) (by rfl)) (pss_cons (ps_set (i := 5) sc_gnum.nd rfl (Or.inl rfl) (pe_op op_add (pv 5) (pe_kn C_gcount (hr.mono (by omega)) (by rfl) (pa_cons (pv 0) (pa_cons (pe_op op_catA (pv 3) (pe_tup (pa_cons (pv 6) pa_nil))) (pa_cons (pv 4) pa_nil))))))
    (pss_cons (ps_set (i := 4) sc_gnum.nd rfl (Or.inl rfl) (pe_op op_catA (pv 4) (pe_tup (pa_cons (pv 6) pa_nil))))
    (pss_one ps_continue))) pss_nil)
    (pss_cons (ps_set (i := 3) sc_gnum.nd rfl (Or.inl rfl) (pe_op op_catA (pv 3) (pe_tup (pa_cons (pv 6) pa_nil))))
    (pss_cons (ps_if (pt_cmpR (op_eqD hr.units) (pv 3) (pv 1) (nomark _)) (pss_one ps_break) pss_nil)
    (pss_one (ps_set (i := 5) sc_gnum.nd rfl (Or.inl rfl) (pe_op op_add (pv 5) (pe_callTy call_int1 (by rfl) T.m_int b_int (pa_cons (pe_kn C_goes (hr.mono (by omega)) (by rfl) (pa_cons (pv 0) (pa_cons (pv 3) pa_nil))) pa_nil)))))))))
    (pss_one (ps_ret (pv 5))))))))

abbrev s_ltold : Stmt := topS 37
abbrev N_ltold : List Str := ["_law_tree_here", "_law_thing", "_law_way"]
theorem sc_ltold : FnScope N_ltold ["_law_tree_here", "_law_thing", "_law_way"] (defScope s_ltold) := ⟨rfl, rfl, rfl, by decide +kernel, rfl, by decide +kernel, by decide +kernel⟩
def t_ltold (K : PySem.W.Frag) (w : World) (sp_gat sp_gnum : Sp) (U TE : Addr) : TS :=
  ((fun (tb : WX → TS) => fun D σ H => tb (wMany K (fun _ _ _ _ => False) D [((.ref U), fun _ _ _ => (tRet (tLst (tCons (tC (.str "unfit")) tNil)))), ((.ref TE), fun _ _ _ => (tRet (tLst (tCons (tC (.str "other")) tNil))))]) D σ H) (fun W => (tSeq (tIfS (tTest (tOp (rI0 fun i j => .bl (decide (i < j))) (tVar 2) (tC (.int 2)))) (tRet (tLst (tCons (tC (.str "told")) (tCons (tIf (tTest (tOp rEq (tVar 2) (tC (.int 0)))) (tCallS sp_gat (WE W) (tCons (tVar 0) (tCons (tVar 1) tNil))) (tCallBack sp_gat (WE W) (tCons (tVar 1) (tCons (tVar 0) tNil)))) tNil)))) tNext)
    (tRet (tLst (tCons (tC (.str "told")) (tCons (tIf (tTest (tOp rEq (tVar 2) (tC (.int 2)))) (tCallS sp_gnum (WE W) (tCons (tVar 0) (tCons (tVar 1) tNil))) (tCallBack sp_gnum (WE W) (tCons (tVar 1) (tCons (tVar 0) tNil)))) tNil)))))))
theorem d_ltold {P : Program} {w : World} {K : PySem.W.Frag} {mg : Str → Option Value} {base : Heap} (T : Txt K mg) {sp_gat sp_gnum : Sp} {k : Nat} {k_gat : Nat} (l_gat : k_gat ≤ k) (C_gat : Kn P w K mg base (L2.CX P w) k_gat "going_at" ["tree", "value"] sp_gat) {k_gnum : Nat} (l_gnum : k_gnum ≤ k) (C_gnum : Kn P w K mg base (L2.CX P w) k_gnum "going_number" ["tree", "value"] sp_gnum) (B_gat : KnB P w K mg base (L2.CX P w) k_gat "going_at" ["tree", "value"] sp_gat) (B_gnum : KnB P w K mg base (L2.CX P w) k_gnum "going_number" ["tree", "value"] sp_gnum) {U TE : Addr} (gU : mg "Unfit" = some (.ref U)) (gT : mg "TripError" = some (.ref TE)) {f : Addr} {cdv : Value} {A : Around} {outer : List Env} {s : Shared} {H : Hp} {E : XK} (hr : Room k (A.deeper (envOfC "_law_told" (defScope s_ltold) s.heap.objs.size f cdv))) :
    PSs (cxOf (CX0) P w K mg base N_ltold "_law_told" (defScope s_ltold) f cdv A outer s H E).nox (defBody s_ltold) (t_ltold K w sp_gat sp_gnum U TE) :=
  (pss_one (ps_try_many (tb := fun W => (tSeq (tIfS (tTest (tOp (rI0 fun i j => .bl (decide (i < j))) (tVar 2) (tC (.int 2)))) (tRet (tLst (tCons (tC (.str "told")) (tCons (tIf (tTest (tOp rEq (tVar 2) (tC (.int 0)))) (tCallS sp_gat (WE W) (tCons (tVar 0) (tCons (tVar 1) tNil))) (tCallBack sp_gat (WE W) (tCons (tVar 1) (tCons (tVar 0) tNil)))) tNil)))) tNext)
    (tRet (tLst (tCons (tC (.str "told")) (tCons (tIf (tTest (tOp rEq (tVar 2) (tC (.int 2)))) (tCallS sp_gnum (WE W) (tCons (tVar 0) (tCons (tVar 1) tNil))) (tCallBack sp_gnum (WE W) (tCons (tVar 1) (tCons (tVar 0) tNil)))) tNil)))))) (l := [((.ref U), fun _ _ _ => (tRet (tLst (tCons (tC (.str "unfit")) tNil)))), ((.ref TE), fun _ _ _ => (tRet (tLst (tCons (tC (.str "other")) tNil))))]) rfl rfl takes0 (fun W pn xe tk _ => (pss_cons (ps_if (pt_cmpR op_lt (pv 2) pe_int (nomark _)) (pss_one (ps_ret (pe_lst (pa_cons pe_str (pa_cons (pe_ifExp (pt_cmpR op_eq (pv 2) pe_int (nomark _)) (pe_knS C_gat (hr.mono (by omega)) (by rfl) tk (pa_cons (pv 0) (pa_cons (pv 1) pa_nil))) (pe_knBS B_gat (hr.mono (by omega)) (by rfl) tk (pk_cons (pv 1) (pk_cons (pv 0) pk_nil)))) pa_nil))))) pss_nil)
    (pss_one (ps_ret (pe_lst (pa_cons pe_str (pa_cons (pe_ifExp (pt_cmpR op_eq (pv 2) pe_int (nomark _)) (pe_knS C_gnum (hr.mono (by omega)) (by rfl) tk (pa_cons (pv 0) (pa_cons (pv 1) pa_nil))) (pe_knBS B_gnum (hr.mono (by omega)) (by rfl) tk (pk_cons (pv 1) (pk_cons (pv 0) pk_nil)))) pa_nil))))))) (.cons ⟨by rfl, by decide, Or.inl gU⟩ (fun a oe cls d pn hz hf => (pss_one (ps_ret (pe_lst (pa_cons pe_str pa_nil))))) (.cons ⟨by rfl, by decide, Or.inl gT⟩ (fun a oe cls d pn hz hf => (pss_one (ps_ret (pe_lst (pa_cons pe_str pa_nil))))) .nil))))

end K19

namespace K19
open PySem PySem.Spec PyProof.Rows L2
abbrev s_lodd : Stmt := topS 39
abbrev N_lodd : List Str := ["_law_bag_here", "_law_tree_here", "_law_row", "_law_some", "_law_many", "_law_button", "_law_first", "_law_failing", "_law_odd", "_law_own", "_law_lot_here"]
theorem sc_lodd : FnScope N_lodd ["_law_bag_here", "_law_tree_here", "_law_row", "_law_some", "_law_many"] (defScope s_lodd) := ⟨rfl, rfl, rfl, by decide +kernel, rfl, by decide +kernel, by decide +kernel⟩
def t_lodd (K : PySem.W.Frag) (w : World) (sp_ltold sp_ldraw sp_lpick sp_lodds sp_lgoes : Sp) : TS :=
  (tSeq (tIfS (tTest (tOp (rNeD K) (tKn sp_ltold (tCons (tVar 1) (tCons (tKn sp_lpick (tCons (tVar 0) (tCons (tKn sp_lodds (tCons (tVar 4) tNil)) tNil))) (tCons (tKn sp_ldraw (tCons (tVar 0) (tCons (tC (.int 2)) tNil))) tNil)))) (tLst (tCons (tC (.str "unfit")) tNil)))) (tRet (tC (.bl false))) tNext)
    (tSeq (tAsg (tOp (rIxL K) (tLc (iRng1 (tCons (tC (.int 100)) tNil)) (gName 9) (tTest (tOp (rIn K true) (tVar 9) (tVar 2))) (tVar 9) [9]) (tKn sp_ldraw (tCons (tVar 0) (tCons (tOp (rI0 fun i j => .int (i - j)) (tC (.int 100)) (tCB (fun xs H Q => ∃ p ys, xs = [.ref p] ∧ (SqL K H p ys ∨ SqT K H p ys) ∧ Q (.int ys.length) H) (tCons (tVar 2) tNil))) tNil)))) (gName 5))
    (tSeq (tPar 6 7 (tCons (tOp (rIxT K) (tVar 3) (tC (.int 0))) (tCons (tLc (iList K (tLst (tCons (tSl (rSlL K) (tVar 2) tNoPart (tPart (tC (.int 1)))) (tCons (tSl (rSlL K) (tVar 2) (tPart (tC (.int 1))) tNoPart) (tCons (tSl (rSlL K) (tVar 2) tNoPart (tPart (tUn (rU fun i => .int (-i)) (tC (.int 1))))) (tCons (tTup tNil) tNil)))))) (gName 10) (tNot (tB (tKn sp_lgoes (tCons (tVar 1) (tCons (tVar 10) tNil))))) (tVar 10) [10]) tNil)))
    (tSeq (tAsg (tOp rCat (tLc (iList K (tVar 7)) (gName 10) tYes (tCB (fun xs H Q => ∃ p ys, xs = [.ref p] ∧ ((SqL K H p ys ∧ ∀ l, H l = none → Q (.ref l) (upd H l (.tup ys))) ∨ (SqT K H p ys ∧ Q (.ref p) H))) (tCons (tVar 10) tNil)) [10]) (tLst (tCons (tCB (fun xs H Q => ∃ p ys, xs = [.ref p] ∧ ((SqL K H p ys ∧ ∀ l, H l = none → Q (.ref l) (upd H l (.tup ys))) ∨ (SqT K H p ys ∧ Q (.ref p) H))) (tCons (tCB (rSortedIT K) (tCons (tOp (rCatA K) (tVar 3) (tTup (tCons (tVar 5) tNil))) tNil)) tNil)) (tCons (tCB (fun xs H Q => ∃ p ys, xs = [.ref p] ∧ (SqL K H p ys ∨ SqT K H p ys) ∧ ∀ l, H l = none → Q (.ref l) (upd H l (.lst ys))) (tCons (tVar 3) tNil)) (tCons (tOp (rCatA K) (tVar 3) (tSl (rSlA K) (tVar 3) (tPart (tUn (rU fun i => .int (-i)) (tC (.int 1)))) tNoPart)) (tCons (tTup (tCons (tVar 3) tNil)) (tCons (tC (.int 0)) tNil))))))) (gName 8))
    (tSeq (tAsg (tOp rCat (tVar 8) (tLst (tCons (tC .non) (tCons (tC (.bl true)) (tCons (tCB (fun xs H Q => ∃ i, xs = [.int i] ∧ i.natAbs.log2 < 1920 ∧ Q (.str (toString i)) H) (tCons (tVar 6) tNil)) (tCons (tOp (rCatA K) (tVar 3) (tTup (tCons (tC (.int 100)) tNil))) (tCons (tOp (rCatA K) (tTup (tCons (tCB (fun xs H Q => ∃ i, xs = [.int i] ∧ i.natAbs.log2 < 1920 ∧ Q (.str (toString i)) H) (tCons (tVar 6) tNil)) tNil)) (tSl (rSlA K) (tVar 3) (tPart (tC (.int 1))) tNoPart)) (tCons (tOp (rCatA K) (tTup (tCons (tTup (tCons (tVar 6) tNil)) tNil)) (tSl (rSlA K) (tVar 3) (tPart (tC (.int 1))) tNoPart)) tNil)))))))) (gName 8))
    (tSeq (tDrop (tBM K "list" rAppend (tVar 8) (tCons (tDisp [((tVar 6), (tVar 6))]) tNil)))
    (tSeq (tIfS (tTest (tOp (rI0 fun i j => .bl (decide (i < j))) (tVar 6) (tC (.int 2)))) (tAsg (tOp rCat (tVar 8) (tLst (tCons (tOp (rCatA K) (tTup (tCons (tOp rEq (tVar 6) (tC (.int 1))) tNil)) (tSl (rSlA K) (tVar 3) (tPart (tC (.int 1))) tNoPart)) tNil))) (gName 8)) tNext)
    (tRet (tOp (rEqD K) (tKn sp_ltold (tCons (tVar 1) (tCons (tKn sp_lpick (tCons (tVar 0) (tCons (tVar 8) tNil))) (tCons (tOp (rI0 fun i j => .int (i + j)) (tC (.int 2)) (tKn sp_ldraw (tCons (tVar 0) (tCons (tC (.int 2)) tNil)))) tNil)))) (tLst (tCons (tC (.str "unfit")) tNil)))))))))))
theorem d_lodd {P : Program} {w : World} {K : PySem.W.Frag} {mg : Str → Option Value} {base : Heap} (T : Txt K mg) {sp_ltold sp_ldraw sp_lpick sp_lodds sp_lgoes : Sp} {k : Nat} {k_ltold : Nat} (l_ltold : k_ltold ≤ k) (C_ltold : Kn P w K mg base CX0 k_ltold "_law_told" ["_law_tree_here", "_law_thing", "_law_way"] sp_ltold) {k_ldraw : Nat} (l_ldraw : k_ldraw ≤ k) (C_ldraw : Kn P w K mg base CX0 k_ldraw "_law_draw" ["_law_bag_here", "_law_many"] sp_ldraw) {k_lpick : Nat} (l_lpick : k_lpick ≤ k) (C_lpick : Kn P w K mg base CX0 k_lpick "_law_pick" ["_law_bag_here", "_law_items"] sp_lpick) {k_lodds : Nat} (l_lodds : k_lodds ≤ k) (C_lodds : Kn P w K mg base CX0 k_lodds "_law_odds" ["_law_many"] sp_lodds) {k_lgoes : Nat} (l_lgoes : k_lgoes ≤ k) (C_lgoes : Kn P w K mg base CX0 k_lgoes "_law_goes" ["_law_tree_here", "_law_some"] sp_lgoes) {f : Addr} {cdv : Value} {A : Around} {outer : List Env} {s : Shared} {H : Hp} {E : XK} (hr : Room k (A.deeper (envOfC "_law_is_odd_refused" (defScope s_lodd) s.heap.objs.size f cdv))) :
    PSs (cxOf (CX0) P w K mg base N_lodd "_law_is_odd_refused" (defScope s_lodd) f cdv A outer s H E).nox (defBody s_lodd) (t_lodd K w sp_ltold sp_ldraw sp_lpick sp_lodds sp_lgoes) :=
  (pss_cons (ps_if (pt_cmpR (op_neD hr.units) (pe_kn C_ltold (hr.mono (by omega)) (by rfl) (pa_cons (pv 1) (pa_cons (pe_kn C_lpick (hr.mono (by omega)) (by rfl) (pa_cons (pv 0) (pa_cons (pe_kn C_lodds (hr.mono (by omega)) (by rfl) (pa_cons (pv 4) pa_nil)) pa_nil))) (pa_cons (pe_kn C_ldraw (hr.mono (by omega)) (by rfl) (pa_cons (pv 0) (pa_cons pe_int pa_nil))) pa_nil)))) (pe_lst (pa_cons pe_str pa_nil)) (nomark _)) (pss_one (ps_ret pe_bl)) pss_nil)
    (pss_cons (ps_set (i := 5) sc_lodd.nd rfl (Or.inl rfl) (pe_ix ix_list (pe_lc (own := [("_law_own", 9)]) (g := (gName 9)) (tt := (tTest (tOp (rIn K true) (tVar 9) (tVar 2)))) (te := (tVar 9)) rfl sc_lodd.nd (pi_range1 (by rfl) T.m_range (pa_cons pe_int pa_nil)) (blkOk_by (own := [("_law_own", 9)]) (N := N_lodd) (sc := defScope s_lodd) (by decide +kernel)) (fun _ _ _ _ _ => (pg_name (i := 9) sc_lodd.nd rfl (Or.inl rfl))) (fun _ _ _ _ _ => (pts_one (pt_cmpR op_notIn_seq (pv 9) (pv 2) (by rfl)))) (fun _ _ _ _ _ => (pv 9))) (pe_kn C_ldraw (hr.mono (by omega)) (by rfl) (pa_cons (pv 0) (pa_cons (pe_op op_sub pe_int (pe_callB call_len_seq (by rfl) T.m_len b_len (pa_cons (pv 2) pa_nil))) pa_nil))) (fun _ _ => rfl)))
    (pss_cons (ps_par (i := 6) (j := 7) rfl sc_lodd.nd rfl rfl (by decide) rfl rfl (pa_cons (pe_ix ix_tup (pv 3) pe_int (fun _ _ => rfl)) (pa_cons (pe_lc (own := [("_law_lot_here", 10)]) (g := (gName 10)) (tt := (tNot (tB (tKn sp_lgoes (tCons (tVar 1) (tCons (tVar 10) tNil)))))) (te := (tVar 10)) rfl sc_lodd.nd (pi_list (pe_lst (pa_cons (pe_slice sl_list (pv 2) po_none (po_some pe_int)) (pa_cons (pe_slice sl_list (pv 2) (po_some pe_int) po_none) (pa_cons (pe_slice sl_list (pv 2) po_none (po_some (pe_un un_neg pe_int))) (pa_cons (pe_tup pa_nil) pa_nil)))))) (blkOk_by (own := [("_law_lot_here", 10)]) (N := N_lodd) (sc := defScope s_lodd) (by decide +kernel)) (fun _ _ _ _ _ => (pg_name (i := 10) sc_lodd.nd rfl (Or.inl rfl))) (fun _ _ _ _ _ => (pts_one (pt_not (pt_val (pe_kn C_lgoes (hr.mono (by omega)) (by rfl) (pa_cons (pv 1) (pa_cons (pv 10) pa_nil))))))) (fun _ _ _ _ _ => (pv 10))) pa_nil)) (by rfl))
    (pss_cons (ps_set (i := 8) sc_lodd.nd rfl (Or.inl rfl) (pe_op op_cat (pe_lc (own := [("_law_lot_here", 10)]) (g := (gName 10)) (tt := tYes) (te := (tCB (fun xs H Q => ∃ p ys, xs = [.ref p] ∧ ((SqL K H p ys ∧ ∀ l, H l = none → Q (.ref l) (upd H l (.tup ys))) ∨ (SqT K H p ys ∧ Q (.ref p) H))) (tCons (tVar 10) tNil))) rfl sc_lodd.nd (pi_list (pv 7)) (blkOk_by (own := [("_law_lot_here", 10)]) (N := N_lodd) (sc := defScope s_lodd) (by decide +kernel)) (fun _ _ _ _ _ => (pg_name (i := 10) sc_lodd.nd rfl (Or.inl rfl))) (fun _ _ _ _ _ => pts_nil) (fun _ _ _ _ _ => (pe_callTy call_tuple_of (by rfl) T.m_tuple b_tuple (pa_cons (pv 10) pa_nil)))) (pe_lst (pa_cons (pe_callTy call_tuple_of (by rfl) T.m_tuple b_tuple (pa_cons (pe_callB cr_sortedIT (by rfl) T.m_sorted b_sorted (pa_cons (pe_op op_catA (pv 3) (pe_tup (pa_cons (pv 5) pa_nil))) pa_nil)) pa_nil)) (pa_cons (pe_callTy call_list_of (by rfl) T.m_list b_list (pa_cons (pv 3) pa_nil)) (pa_cons (pe_op op_catA (pv 3) (pe_slice sl_tupA (pv 3) (po_some (pe_un un_neg pe_int)) po_none)) (pa_cons (pe_tup (pa_cons (pv 3) pa_nil)) (pa_cons pe_int pa_nil))))))))
    (pss_cons (ps_set (i := 8) sc_lodd.nd rfl (Or.inl rfl) (pe_op op_cat (pv 8) (pe_lst (pa_cons pe_non (pa_cons pe_bl (pa_cons (pe_callTy call_str_int (by rfl) T.m_str b_str (pa_cons (pv 6) pa_nil)) (pa_cons (pe_op op_catA (pv 3) (pe_tup (pa_cons pe_int pa_nil))) (pa_cons (pe_op op_catA (pe_tup (pa_cons (pe_callTy call_str_int (by rfl) T.m_str b_str (pa_cons (pv 6) pa_nil)) pa_nil)) (pe_slice sl_tupA (pv 3) (po_some pe_int) po_none)) (pa_cons (pe_op op_catA (pe_tup (pa_cons (pe_tup (pa_cons (pv 6) pa_nil)) pa_nil)) (pe_slice sl_tupA (pv 3) (po_some pe_int) po_none)) pa_nil)))))))))
    (pss_cons (ps_expr (pe_bm PySem.F.plainAttrs_list PySem.F.slot_list_append PySem.F.type_list_append mt_append (pv 8) (pa_cons (pe_disp (pps_cons (pv 6) (pv 6) pps_nil) rfl rfl (fun z => by cases z) (by decide)) pa_nil)))
    (pss_cons (ps_if (pt_cmpR op_lt (pv 6) pe_int (nomark _)) (pss_one (ps_set (i := 8) sc_lodd.nd rfl (Or.inl rfl) (pe_op op_cat (pv 8) (pe_lst (pa_cons (pe_op op_catA (pe_tup (pa_cons (pe_cmpR op_eq (pv 6) pe_int (nomark _)) pa_nil)) (pe_slice sl_tupA (pv 3) (po_some pe_int) po_none)) pa_nil))))) pss_nil)
    (pss_one (ps_ret (pe_cmpR (op_eqD hr.units) (pe_kn C_ltold (hr.mono (by omega)) (by rfl) (pa_cons (pv 1) (pa_cons (pe_kn C_lpick (hr.mono (by omega)) (by rfl) (pa_cons (pv 0) (pa_cons (pv 8) pa_nil))) (pa_cons (pe_op op_add pe_int (pe_kn C_ldraw (hr.mono (by omega)) (by rfl) (pa_cons (pv 0) (pa_cons pe_int pa_nil)))) pa_nil)))) (pe_lst (pa_cons pe_str pa_nil)) (nomark _)))))))))))

end K19

namespace K19
open PySem PySem.Spec PyProof.Rows L2
abbrev s_lcounted : Stmt := topS 40
abbrev N_lcounted : List Str := ["_law_bag_here", "_law_tree_here", "_law_row", "_law_going", "_law_wide", "_law_turn", "_law_must", "_law_never", "_law_due", "_law_lacking", "_law_told_here", "_law_button", "_law_some"]
theorem sc_lcounted : FnScope N_lcounted ["_law_bag_here", "_law_tree_here", "_law_row", "_law_going"] (defScope s_lcounted) := ⟨rfl, rfl, rfl, by decide +kernel, rfl, by decide +kernel, by decide +kernel⟩
def t_lcounted (K : PySem.W.Frag) (w : World) (sp_lpick sp_llot sp_lgmany sp_gcount : Sp) : TS :=
  (tSeq (tAsg (tOp rCat (tVar 2) (tSl (rSlL K) (tLc (iRng1 (tCons (tC (.int 100)) tNil)) (gName 11) (tTest (tOp (rIn K true) (tVar 11) (tVar 2))) (tVar 11) [11]) tNoPart (tPart (tC (.int 2))))) (gName 4))
    (tSeq (tFor (iRng1 (tCons (tC (.int 4)) tNil)) (gName 5) (tSeq (tAsg (tTup (tCons (tKn sp_llot (tCons (tVar 0) (tCons (tLst (tCons (tKn sp_lpick (tCons (tVar 0) (tCons (tVar 4) tNil))) tNil)) (tCons (tC (.int 2)) tNil)))) (tCons (tCB (fun xs H Q => ∃ p ys, xs = [.ref p] ∧ ((SqL K H p ys ∧ ∀ l, H l = none → Q (.ref l) (upd H l (.tup ys))) ∨ (SqT K H p ys ∧ Q (.ref p) H))) (tCons (tCB (rSortedSet w) (tCons (tCB (rSetOfL K w) (tCons (tLst (tCons (tKn sp_lpick (tCons (tVar 0) (tCons (tVar 4) tNil))) tNil)) tNil)) tNil)) tNil)) tNil))) (gTup K 2 (gCons (gName 6) (gCons (gName 7) gNil))))
    (tSeq (tIfS (tTest (tOp rEq (tVar 5) (tC (.int 1)))) (tAsg (tTup (tCons (tCB (fun xs H Q => ∃ p ys, xs = [.ref p] ∧ ((SqL K H p ys ∧ ∀ l, H l = none → Q (.ref l) (upd H l (.tup ys))) ∨ (SqT K H p ys ∧ Q (.ref p) H))) (tCons (tCB (rSortedSet w) (tCons (tCB (rSetOfL K w) (tCons (tLst (tCons (tKn sp_lpick (tCons (tVar 0) (tCons (tVar 4) tNil))) (tCons (tKn sp_lpick (tCons (tVar 0) (tCons (tVar 4) tNil))) tNil))) tNil)) tNil)) tNil)) (tCons (tKn sp_llot (tCons (tVar 0) (tCons (tVar 2) (tCons (tC (.int 2)) tNil)))) tNil))) (gTup K 2 (gCons (gName 6) (gCons (gName 7) gNil)))) tNext)
    (tSeq (tIfS (tTest (tOp rEq (tVar 5) (tC (.int 2)))) (tAsg (tTup (tCons (tTup tNil) (tCons (tTup tNil) tNil))) (gTup K 2 (gCons (gName 6) (gCons (gName 7) gNil)))) tNext)
    (tSeq (tAsg (tKn sp_lgmany (tCons (tVar 1) (tCons (tVar 6) (tCons (tVar 7) tNil)))) (gName 8))
    (tSeq (tIfS (tTest (tOp (fun x y H Q => y = .non ∧ Q (.bl (!decide (x = .non))) H) (tVar 3) (tC .non))) (tSeq (tAsg (tLc (iList K (tVar 3)) (gName 12) (tTest (tOp (rEqD K) (tLc (iTup K (tVar 6)) (gName 11) (tTest (tOp (rIn K true) (tVar 11) (tVar 12))) (tC (.int 1)) [11]) (tLst tNil))) (tVar 12) [12]) (gName 9))
    (tAsg (tCB (fun xs H Q => ∃ p ys, xs = [.ref p] ∧ (SqL K H p ys ∨ SqT K H p ys) ∧ Q (.int ys.length) H) (tCons (tLc (iList K (tVar 9)) (gName 12) (tTest (tOp (rEqD K) (tLc (iTup K (tVar 7)) (gName 11) (tTest (tOp (rIn K false) (tVar 11) (tVar 12))) (tC (.int 1)) [11]) (tLst tNil))) (tVar 12) [12]) tNil)) (gName 8))) tNext)
    (tSeq (tAsg (tIf (tTest (tOp (rI0 fun i j => .bl (decide (i < j))) (tVar 5) (tC (.int 3)))) (tKn sp_gcount (tCons (tVar 1) (tCons (tVar 6) (tCons (tVar 7) tNil)))) (tCallBack sp_gcount (fun _ => E0) (tCons (tVar 7) (tCons (tVar 6) (tCons (tVar 1) tNil))))) (gName 10))
    (tIfS (tTest (tOp rNe (tCB (fun xs H Q => ∃ i, xs = [.int i] ∧ i.natAbs.log2 < 1920 ∧ Q (.str (toString i)) H) (tCons (tVar 10) tNil)) (tCB (fun xs H Q => ∃ i, xs = [.int i] ∧ i.natAbs.log2 < 1920 ∧ Q (.str (toString i)) H) (tCons (tVar 8) tNil)))) (tRet (tC (.bl false))) tNext))))))))
    (tRet (tC (.bl true)))))
theorem d_lcounted {P : Program} {w : World} {K : PySem.W.Frag} {mg : Str → Option Value} {base : Heap} (T : Txt K mg) {sp_lpick sp_llot sp_lgmany sp_gcount : Sp} {k : Nat} {k_lpick : Nat} (l_lpick : k_lpick ≤ k) (C_lpick : Kn P w K mg base CX0 k_lpick "_law_pick" ["_law_bag_here", "_law_items"] sp_lpick) {k_llot : Nat} (l_llot : k_llot ≤ k) (C_llot : Kn P w K mg base CX0 k_llot "_law_lot" ["_law_bag_here", "_law_row", "_law_often"] sp_llot) {k_lgmany : Nat} (l_lgmany : k_lgmany ≤ k) (C_lgmany : Kn P w K mg base CX0 k_lgmany "_law_going_many" ["_law_tree_here", "_law_must", "_law_never"] sp_lgmany) {k_gcount : Nat} (l_gcount : k_gcount ≤ k) (C_gcount : Kn P w K mg base CX0 k_gcount "going_count" ["tree", "must", "never"] sp_gcount) (B_gcount : KnB P w K mg base CX0 k_gcount "going_count" ["tree", "must", "never"] sp_gcount) {f : Addr} {cdv : Value} {A : Around} {outer : List Env} {s : Shared} {H : Hp} {E : XK} (hr : Room k (A.deeper (envOfC "_law_are_counted" (defScope s_lcounted) s.heap.objs.size f cdv))) :
    PSs (cxOf (CX0) P w K mg base N_lcounted "_law_are_counted" (defScope s_lcounted) f cdv A outer s H E).nox (defBody s_lcounted) (t_lcounted K w sp_lpick sp_llot sp_lgmany sp_gcount) :=
  (pss_cons (ps_set (i := 4) sc_lcounted.nd rfl (Or.inl rfl) (pe_op op_cat (pv 2) (pe_slice sl_list (pe_lc (own := [("_law_button", 11)]) (g := (gName 11)) (tt := (tTest (tOp (rIn K true) (tVar 11) (tVar 2)))) (te := (tVar 11)) rfl sc_lcounted.nd (pi_range1 (by rfl) T.m_range (pa_cons pe_int pa_nil)) (blkOk_by (own := [("_law_button", 11)]) (N := N_lcounted) (sc := defScope s_lcounted) (by decide +kernel)) (fun _ _ _ _ _ => (pg_name (i := 11) sc_lcounted.nd rfl (Or.inl rfl))) (fun _ _ _ _ _ => (pts_one (pt_cmpR op_notIn_seq (pv 11) (pv 2) (by rfl)))) (fun _ _ _ _ _ => (pv 11))) po_none (po_some pe_int))))
    (pss_cons (ps_for PassesOwn.never rfl (pi_range1 (by rfl) T.m_range (pa_cons pe_int pa_nil)) (pg_name (i := 5) sc_lcounted.nd rfl (Or.inl rfl)) (pss_cons (ps_asg (pe_tup (pa_cons (pe_kn C_llot (hr.mono (by omega)) (by rfl) (pa_cons (pv 0) (pa_cons (pe_lst (pa_cons (pe_kn C_lpick (hr.mono (by omega)) (by rfl) (pa_cons (pv 0) (pa_cons (pv 4) pa_nil))) pa_nil)) (pa_cons pe_int pa_nil)))) (pa_cons (pe_callTy call_tuple_of (by rfl) T.m_tuple b_tuple (pa_cons (pe_callB (cr_sortedSet rfl) (by rfl) T.m_sorted b_sorted (pa_cons (pe_callTy (call_setL rfl) (by rfl) T.m_set b_set (pa_cons (pe_lst (pa_cons (pe_kn C_lpick (hr.mono (by omega)) (by rfl) (pa_cons (pv 0) (pa_cons (pv 4) pa_nil))) pa_nil)) pa_nil)) pa_nil)) pa_nil)) pa_nil))) (pg_tup rfl (pgs_cons (pg_name (i := 6) sc_lcounted.nd rfl (Or.inr rfl)) (pgs_cons (pg_name (i := 7) sc_lcounted.nd rfl (Or.inr rfl)) pgs_nil))))
    (pss_cons (ps_if (pt_cmpR op_eq (pv 5) pe_int (nomark _)) (pss_one (ps_asg (pe_tup (pa_cons (pe_callTy call_tuple_of (by rfl) T.m_tuple b_tuple (pa_cons (pe_callB (cr_sortedSet rfl) (by rfl) T.m_sorted b_sorted (pa_cons (pe_callTy (call_setL rfl) (by rfl) T.m_set b_set (pa_cons (pe_lst (pa_cons (pe_kn C_lpick (hr.mono (by omega)) (by rfl) (pa_cons (pv 0) (pa_cons (pv 4) pa_nil))) (pa_cons (pe_kn C_lpick (hr.mono (by omega)) (by rfl) (pa_cons (pv 0) (pa_cons (pv 4) pa_nil))) pa_nil))) pa_nil)) pa_nil)) pa_nil)) (pa_cons (pe_kn C_llot (hr.mono (by omega)) (by rfl) (pa_cons (pv 0) (pa_cons (pv 2) (pa_cons pe_int pa_nil)))) pa_nil))) (pg_tup rfl (pgs_cons (pg_name (i := 6) sc_lcounted.nd rfl (Or.inr rfl)) (pgs_cons (pg_name (i := 7) sc_lcounted.nd rfl (Or.inr rfl)) pgs_nil))))) pss_nil)
    (pss_cons (ps_if (pt_cmpR op_eq (pv 5) pe_int (nomark _)) (pss_one (ps_asg (pe_tup (pa_cons (pe_tup pa_nil) (pa_cons (pe_tup pa_nil) pa_nil))) (pg_tup rfl (pgs_cons (pg_name (i := 6) sc_lcounted.nd rfl (Or.inr rfl)) (pgs_cons (pg_name (i := 7) sc_lcounted.nd rfl (Or.inr rfl)) pgs_nil))))) pss_nil)
    (pss_cons (ps_set (i := 8) sc_lcounted.nd rfl (Or.inl rfl) (pe_kn C_lgmany (hr.mono (by omega)) (by rfl) (pa_cons (pv 1) (pa_cons (pv 6) (pa_cons (pv 7) pa_nil)))))
    (pss_cons (ps_if (pt_cmpR op_notN (pv 3) pe_non (nomark _)) (pss_cons (ps_setLc (i := 9) (own := [("_law_some", 12)]) (g := (gName 12)) (tt := (tTest (tOp (rEqD K) (tLc (iTup K (tVar 6)) (gName 11) (tTest (tOp (rIn K true) (tVar 11) (tVar 12))) (tC (.int 1)) [11]) (tLst tNil)))) (te := (tVar 12)) rfl sc_lcounted.nd rfl rfl (sw_true rfl rfl rfl (by decide +kernel)) (pi_list (pv 3)) (blkOk_by (own := [("_law_some", 12)]) (N := N_lcounted) (sc := defScope s_lcounted) (by decide +kernel)) (fun _ _ _ _ _ => (pg_name (i := 12) sc_lcounted.nd rfl (Or.inr rfl))) (fun _ _ _ _ _ => (pts_one (pt_cmpR (op_eqD hr.units) (pe_lc (own := [("_law_button", 11)]) (g := (gName 11)) (tt := (tTest (tOp (rIn K true) (tVar 11) (tVar 12)))) (te := (tC (.int 1))) rfl sc_lcounted.nd (pi_tup (pv 6)) (blkOk_by (own := [("_law_button", 11)]) (N := N_lcounted) (sc := relS (lcScope (valOf (subOf 0 (subOf 4 (subOf 1 s_lcounted))))) (defScope s_lcounted)) (by decide +kernel)) (fun _ _ _ _ _ => (pg_name (i := 11) sc_lcounted.nd rfl (Or.inl rfl))) (fun _ _ _ _ _ => (pts_one (pt_cmpR op_notIn_seq (pv 11) (pv 12) (by rfl)))) (fun _ _ _ _ _ => pe_int)) (pe_lst pa_nil) (nomark _)))) (fun _ _ _ _ _ => (pv 12)))
    (pss_one (ps_set (i := 8) sc_lcounted.nd rfl (Or.inl rfl) (pe_callB call_len_seq (by rfl) T.m_len b_len (pa_cons (pe_lc (own := [("_law_some", 12)]) (g := (gName 12)) (tt := (tTest (tOp (rEqD K) (tLc (iTup K (tVar 7)) (gName 11) (tTest (tOp (rIn K false) (tVar 11) (tVar 12))) (tC (.int 1)) [11]) (tLst tNil)))) (te := (tVar 12)) rfl sc_lcounted.nd (pi_list (pv 9)) (blkOk_by (own := [("_law_some", 12)]) (N := N_lcounted) (sc := defScope s_lcounted) (by decide +kernel)) (fun _ _ _ _ _ => (pg_name (i := 12) sc_lcounted.nd rfl (Or.inr rfl))) (fun _ _ _ _ _ => (pts_one (pt_cmpR (op_eqD hr.units) (pe_lc (own := [("_law_button", 11)]) (g := (gName 11)) (tt := (tTest (tOp (rIn K false) (tVar 11) (tVar 12)))) (te := (tC (.int 1))) rfl sc_lcounted.nd (pi_tup (pv 7)) (blkOk_by (own := [("_law_button", 11)]) (N := N_lcounted) (sc := relS (lcScope (argOf (valOf (subOf 1 (subOf 4 (subOf 1 s_lcounted)))))) (defScope s_lcounted)) (by decide +kernel)) (fun _ _ _ _ _ => (pg_name (i := 11) sc_lcounted.nd rfl (Or.inl rfl))) (fun _ _ _ _ _ => (pts_one (pt_cmpR op_in_seq (pv 11) (pv 12) (by rfl)))) (fun _ _ _ _ _ => pe_int)) (pe_lst pa_nil) (nomark _)))) (fun _ _ _ _ _ => (pv 12))) pa_nil))))) pss_nil)
    (pss_cons (ps_set (i := 10) sc_lcounted.nd rfl (Or.inl rfl) (pe_ifExp (pt_cmpR op_lt (pv 5) pe_int (nomark _)) (pe_kn C_gcount (hr.mono (by omega)) (by rfl) (pa_cons (pv 1) (pa_cons (pv 6) (pa_cons (pv 7) pa_nil)))) (pe_knB B_gcount (hr.mono (by omega)) (by rfl) (pk_cons (pv 7) (pk_cons (pv 6) (pk_cons (pv 1) pk_nil))))))
    (pss_one (ps_if (pt_cmpR op_ne (pe_callB SkE.call_repr_int (by rfl) T.m_repr b_repr (pa_cons (pv 10) pa_nil)) (pe_callB SkE.call_repr_int (by rfl) T.m_repr b_repr (pa_cons (pv 8) pa_nil)) (nomark _)) (pss_one (ps_ret pe_bl)) pss_nil)))))))))
    (pss_one (ps_ret pe_bl))))

end K19

namespace K19
open PySem PySem.Spec PyProof.Rows L2
abbrev s_lwide : Stmt := topS 41
abbrev N_lwide : List Str := ["_law_bag_here", "_law_mixed_here", "_law_cut", "_law_parts", "_law_tree_here", "_law_many", "_law_number_here", "_law_found", "_law_some", "_law_own", "_law_low", "_law_high"]
theorem sc_lwide : FnScope N_lwide ["_law_bag_here"] (defScope s_lwide) := ⟨rfl, rfl, rfl, by decide +kernel, rfl, by decide +kernel, by decide +kernel⟩
def t_lwide (K : PySem.W.Frag) (w : World) (sp_ldraw sp_lmixed sp_lbuttons sp_lsides sp_lpick sp_ltold sp_lgoes sp_lnumber : Sp) : TS :=
  (tSeq (tAsg (tTup (tCons (tKn sp_lmixed (tCons (tVar 0) (tCons (tKn sp_lbuttons (tCons (tVar 0) (tCons (tC (.int 24)) tNil))) tNil))) (tCons (tOp (rI0 fun i j => .int (i + j)) (tC (.int 8)) (tKn sp_ldraw (tCons (tVar 0) (tCons (tC (.int 9)) tNil)))) tNil))) (gTup K 2 (gCons (gName 1) (gCons (gName 2) gNil))))
    (tSeq (tAsg (tTup (tCons (tTup (tCons (tOp (rI0 fun i j => .int (i + j)) (tC (.int 1)) (tKn sp_ldraw (tCons (tVar 0) (tCons (tVar 2) tNil)))) (tCons (tCB (fun xs H Q => ∃ p ys, xs = [.ref p] ∧ ((SqL K H p ys ∧ ∀ l, H l = none → Q (.ref l) (upd H l (.tup ys))) ∨ (SqT K H p ys ∧ Q (.ref p) H))) (tCons (tSl (rSlL K) (tVar 1) tNoPart (tPart (tVar 2))) tNil)) tNil))) (tCons (tTup (tCons (tOp (rI0 fun i j => .int (i + j)) (tC (.int 1)) (tKn sp_ldraw (tCons (tVar 0) (tCons (tOp (rI0 fun i j => .int (i - j)) (tC (.int 24)) (tVar 2)) tNil)))) (tCons (tCB (fun xs H Q => ∃ p ys, xs = [.ref p] ∧ ((SqL K H p ys ∧ ∀ l, H l = none → Q (.ref l) (upd H l (.tup ys))) ∨ (SqT K H p ys ∧ Q (.ref p) H))) (tCons (tSl (rSlL K) (tVar 1) (tPart (tVar 2)) tNoPart) tNil)) tNil))) tNil))) (gName 3))
    (tSeq (tAsg (tTup (tCons (tOp (rI0 fun i j => .int (i + j)) (tC (.int 1)) (tKn sp_ldraw (tCons (tVar 0) (tCons (tC (.int 2)) tNil)))) (tCons (tVar 3) tNil))) (gName 4))
    (tSeq (tAsg (tOp (rIxT K) (tKn sp_lsides (tCons (tVar 4) (tCons (tTup tNil) (tCons (tTup tNil) tNil)))) (tC (.int 0))) (gName 5))
    (tSeq (tAsg (tKn sp_lpick (tCons (tVar 0) (tCons (tLst (tCons (tOp (rI0 fun i j => .int (i - j)) (tVar 5) (tC (.int 1))) (tCons (tKn sp_ldraw (tCons (tVar 0) (tCons (tVar 5) tNil))) (tCons (tOp (rI0 fun i j => .int (i - j)) (tOp (rI0 fun i j => .int (i - j)) (tVar 5) (tC (.int 1))) (tKn sp_ldraw (tCons (tVar 0) (tCons (tCB (fun xs H Q => ∃ i j, xs = [.int i, .int j] ∧ Q (.int (if j < i then j else i)) H) (tCons (tVar 5) (tCons (tC (.int 1000)) tNil))) tNil)))) tNil)))) tNil))) (gName 6))
    (tSeq (tAsg (tKn sp_ltold (tCons (tVar 4) (tCons (tVar 6) (tCons (tKn sp_ldraw (tCons (tVar 0) (tCons (tC (.int 2)) tNil))) tNil)))) (gName 7))
    (tSeq (tIfS (tOr (tTest (tOp rNe (tOp (rIxL K) (tVar 7) (tC (.int 0))) (tC (.str "told")))) (tNot (tB (tCB (rIsi K) (tCons (tOp (rIxL K) (tVar 7) (tC (.int 1))) (tCons (tC (.ty "tuple")) tNil)))))) (tRet (tC (.bl false))) tNext)
    (tSeq (tAsg (tOp (rIxL K) (tVar 7) (tC (.int 1))) (gName 8))
    (tSeq (tIfS (tTest (tOp (rNeD K) (tLc (iTup K (tVar 8)) (gName 9) (tOr (tTest (tOp (rIn K true) (tVar 9) (tVar 1))) (tB (tCB (rIsi K) (tCons (tVar 9) (tCons (tC (.ty "bool")) tNil))))) (tC (.int 1)) [9]) (tLst tNil))) (tRet (tC (.bl false))) tNext)
    (tSeq (tIfS (tTest (tOp (rNeD K) (tLc (RZ.iZipA K (tCons (tVar 8) (tCons (tSl (rSlA K) (tVar 8) (tPart (tC (.int 1))) tNoPart) tNil))) (gTup K 2 (gCons (gName 10) (gCons (gName 11) gNil))) (tTest (tOp (rI0 fun i j => .bl (decide (j ≤ i))) (tVar 10) (tVar 11))) (tC (.int 1)) [10, 11]) (tLst tNil))) (tRet (tC (.bl false))) tNext)
    (tRet (tAndV (tKn sp_lgoes (tCons (tVar 4) (tCons (tVar 8) tNil))) (tOp rEq (tKn sp_lnumber (tCons (tVar 4) (tCons (tVar 8) tNil))) (tVar 6))))))))))))))
theorem d_lwide {P : Program} {w : World} {K : PySem.W.Frag} {mg : Str → Option Value} {base : Heap} (T : Txt K mg) {sp_ldraw sp_lmixed sp_lbuttons sp_lsides sp_lpick sp_ltold sp_lgoes sp_lnumber : Sp} {k : Nat} {k_ldraw : Nat} (l_ldraw : k_ldraw ≤ k) (C_ldraw : Kn P w K mg base CX0 k_ldraw "_law_draw" ["_law_bag_here", "_law_many"] sp_ldraw) {k_lmixed : Nat} (l_lmixed : k_lmixed ≤ k) (C_lmixed : Kn P w K mg base CX0 k_lmixed "_law_mixed" ["_law_bag_here", "_law_items"] sp_lmixed) {k_lbuttons : Nat} (l_lbuttons : k_lbuttons ≤ k) (C_lbuttons : Kn P w K mg base CX0 k_lbuttons "_law_buttons" ["_law_bag_here", "_law_many"] sp_lbuttons) {k_lsides : Nat} (l_lsides : k_lsides ≤ k) (C_lsides : Kn P w K mg base CX0 k_lsides "_law_sides" ["_law_tree_here", "_law_must", "_law_never"] sp_lsides) {k_lpick : Nat} (l_lpick : k_lpick ≤ k) (C_lpick : Kn P w K mg base CX0 k_lpick "_law_pick" ["_law_bag_here", "_law_items"] sp_lpick) {k_ltold : Nat} (l_ltold : k_ltold ≤ k) (C_ltold : Kn P w K mg base CX0 k_ltold "_law_told" ["_law_tree_here", "_law_thing", "_law_way"] sp_ltold) {k_lgoes : Nat} (l_lgoes : k_lgoes ≤ k) (C_lgoes : Kn P w K mg base CX0 k_lgoes "_law_goes" ["_law_tree_here", "_law_some"] sp_lgoes) {k_lnumber : Nat} (l_lnumber : k_lnumber ≤ k) (C_lnumber : Kn P w K mg base CX0 k_lnumber "_law_number" ["_law_tree_here", "_law_some"] sp_lnumber) {f : Addr} {cdv : Value} {A : Around} {outer : List Env} {s : Shared} {H : Hp} {E : XK} (hr : Room k (A.deeper (envOfC "_law_is_widest" (defScope s_lwide) s.heap.objs.size f cdv))) :
    PSs (cxOf (CX0) P w K mg base N_lwide "_law_is_widest" (defScope s_lwide) f cdv A outer s H E).nox (defBody s_lwide) (t_lwide K w sp_ldraw sp_lmixed sp_lbuttons sp_lsides sp_lpick sp_ltold sp_lgoes sp_lnumber) :=
  (pss_cons (ps_asg (pe_tup (pa_cons (pe_kn C_lmixed (hr.mono (by omega)) (by rfl) (pa_cons (pv 0) (pa_cons (pe_kn C_lbuttons (hr.mono (by omega)) (by rfl) (pa_cons (pv 0) (pa_cons pe_int pa_nil))) pa_nil))) (pa_cons (pe_op op_add pe_int (pe_kn C_ldraw (hr.mono (by omega)) (by rfl) (pa_cons (pv 0) (pa_cons pe_int pa_nil)))) pa_nil))) (pg_tup rfl (pgs_cons (pg_name (i := 1) sc_lwide.nd rfl (Or.inr rfl)) (pgs_cons (pg_name (i := 2) sc_lwide.nd rfl (Or.inl rfl)) pgs_nil))))
    (pss_cons (ps_set (i := 3) sc_lwide.nd rfl (Or.inl rfl) (pe_tup (pa_cons (pe_tup (pa_cons (pe_op op_add pe_int (pe_kn C_ldraw (hr.mono (by omega)) (by rfl) (pa_cons (pv 0) (pa_cons (pv 2) pa_nil)))) (pa_cons (pe_callTy call_tuple_of (by rfl) T.m_tuple b_tuple (pa_cons (pe_slice sl_list (pv 1) po_none (po_some (pv 2))) pa_nil)) pa_nil))) (pa_cons (pe_tup (pa_cons (pe_op op_add pe_int (pe_kn C_ldraw (hr.mono (by omega)) (by rfl) (pa_cons (pv 0) (pa_cons (pe_op op_sub pe_int (pv 2)) pa_nil)))) (pa_cons (pe_callTy call_tuple_of (by rfl) T.m_tuple b_tuple (pa_cons (pe_slice sl_list (pv 1) (po_some (pv 2)) po_none) pa_nil)) pa_nil))) pa_nil))))
    (pss_cons (ps_set (i := 4) sc_lwide.nd rfl (Or.inl rfl) (pe_tup (pa_cons (pe_op op_add pe_int (pe_kn C_ldraw (hr.mono (by omega)) (by rfl) (pa_cons (pv 0) (pa_cons pe_int pa_nil)))) (pa_cons (pv 3) pa_nil))))
    (pss_cons (ps_set (i := 5) sc_lwide.nd rfl (Or.inl rfl) (pe_ix ix_tup (pe_kn C_lsides (hr.mono (by omega)) (by rfl) (pa_cons (pv 4) (pa_cons (pe_tup pa_nil) (pa_cons (pe_tup pa_nil) pa_nil)))) pe_int (fun _ _ => rfl)))
    (pss_cons (ps_set (i := 6) sc_lwide.nd rfl (Or.inl rfl) (pe_kn C_lpick (hr.mono (by omega)) (by rfl) (pa_cons (pv 0) (pa_cons (pe_lst (pa_cons (pe_op op_sub (pv 5) pe_int) (pa_cons (pe_kn C_ldraw (hr.mono (by omega)) (by rfl) (pa_cons (pv 0) (pa_cons (pv 5) pa_nil))) (pa_cons (pe_op op_sub (pe_op op_sub (pv 5) pe_int) (pe_kn C_ldraw (hr.mono (by omega)) (by rfl) (pa_cons (pv 0) (pa_cons (pe_callB (call_min2 rfl) (by rfl) T.m_min b_min (pa_cons (pv 5) (pa_cons pe_int pa_nil))) pa_nil)))) pa_nil)))) pa_nil))))
    (pss_cons (ps_set (i := 7) sc_lwide.nd rfl (Or.inl rfl) (pe_kn C_ltold (hr.mono (by omega)) (by rfl) (pa_cons (pv 4) (pa_cons (pv 6) (pa_cons (pe_kn C_ldraw (hr.mono (by omega)) (by rfl) (pa_cons (pv 0) (pa_cons pe_int pa_nil))) pa_nil)))))
    (pss_cons (ps_if (PW.pt (pw_or (pt_cmpR op_ne (pe_ix ix_list (pv 7) pe_int (fun _ _ => rfl)) pe_str (nomark _)) (pw_or1 (pt_not (pt_val (pe_callB call_isi (by rfl) T.m_isinstance b_isinstance (pa_cons (pe_ix ix_list (pv 7) pe_int (fun _ _ => rfl)) (pa_cons (pe_bltn (v := .ty "tuple") (by rfl) T.m_tuple b_tuple rfl) pa_nil)))))))) (pss_one (ps_ret pe_bl)) pss_nil)
    (pss_cons (ps_set (i := 8) sc_lwide.nd rfl (Or.inl rfl) (pe_ix ix_list (pv 7) pe_int (fun _ _ => rfl)))
    (pss_cons (ps_if (pt_cmpR (op_neD hr.units) (pe_lc (own := [("_law_own", 9)]) (g := (gName 9)) (tt := (tOr (tTest (tOp (rIn K true) (tVar 9) (tVar 1))) (tB (tCB (rIsi K) (tCons (tVar 9) (tCons (tC (.ty "bool")) tNil)))))) (te := (tC (.int 1))) rfl sc_lwide.nd (pi_tup (pv 8)) (blkOk_by (own := [("_law_own", 9)]) (N := N_lwide) (sc := defScope s_lwide) (by decide +kernel)) (fun _ _ _ _ _ => (pg_name (i := 9) sc_lwide.nd rfl (Or.inl rfl))) (fun _ _ _ _ _ => (pts_one (PW.pt (pw_or (pt_cmpR op_notIn_seq (pv 9) (pv 1) (by rfl)) (pw_or1 (pt_val (pe_callB call_isi (by rfl) T.m_isinstance b_isinstance (pa_cons (pv 9) (pa_cons (pe_bltn (v := .ty "bool") (by rfl) T.m_bool b_bool rfl) pa_nil))))))))) (fun _ _ _ _ _ => pe_int)) (pe_lst pa_nil) (nomark _)) (pss_one (ps_ret pe_bl)) pss_nil)
    (pss_cons (ps_if (pt_cmpR (op_neD hr.units) (pe_lc (own := [("_law_low", 10), ("_law_high", 11)]) (g := (gTup K 2 (gCons (gName 10) (gCons (gName 11) gNil)))) (tt := (tTest (tOp (rI0 fun i j => .bl (decide (j ≤ i))) (tVar 10) (tVar 11)))) (te := (tC (.int 1))) rfl sc_lwide.nd (RZ.pi_zipA (by rfl) T.m_zip (pa_cons (pv 8) (pa_cons (pe_slice sl_tupA (pv 8) (po_some pe_int) po_none) pa_nil))) (blkOk_by (own := [("_law_low", 10), ("_law_high", 11)]) (N := N_lwide) (sc := defScope s_lwide) (by decide +kernel)) (fun _ _ _ _ _ => (pg_tup rfl (pgs_cons (pg_name (i := 10) sc_lwide.nd rfl (Or.inl rfl)) (pgs_cons (pg_name (i := 11) sc_lwide.nd rfl (Or.inl rfl)) pgs_nil)))) (fun _ _ _ _ _ => (pts_one (pt_cmpR op_ge (pv 10) (pv 11) (nomark _)))) (fun _ _ _ _ _ => pe_int)) (pe_lst pa_nil) (nomark _)) (pss_one (ps_ret pe_bl)) pss_nil)
    (pss_one (ps_ret (pe_and (pe_kn C_lgoes (hr.mono (by omega)) (by rfl) (pa_cons (pv 4) (pa_cons (pv 8) pa_nil))) (pe_one (pe_cmpR op_eq (pe_kn C_lnumber (hr.mono (by omega)) (by rfl) (pa_cons (pv 4) (pa_cons (pv 8) pa_nil))) (pv 6) (nomark _))))))))))))))))

abbrev s_llaw : Stmt := topS 42
abbrev N_llaw : List Str := ["_law_script", "_law_bag_here", "_law_row", "_law_tree_here", "_law_every_here", "_law_going", "_law_turn", "_law_number_here", "_law_answer", "_law_many", "_law_some", "_law_found", "_law_word", "_law_own"]
theorem sc_llaw : FnScope N_llaw ["_law_script"] (defScope s_llaw) := ⟨rfl, rfl, rfl, by decide +kernel, rfl, by decide +kernel, by decide +kernel⟩
def t_llaw (K : PySem.W.Frag) (w : World) (sp_lbag sp_lbuttons sp_ldraw sp_ltree sp_lmixed sp_levery sp_lwords sp_ltold sp_lcounted sp_lodd sp_lpick sp_lwide sp_lsides sp_lgoes sp_lnumber : Sp) : TS :=
  (tSeq (tAsg (tKn sp_lbag (tCons (tVar 0) tNil)) (gName 1))
    (tSeq (tAsg (tKn sp_lbuttons (tCons (tVar 1) (tCons (tOp (rI0 fun i j => .int (i + j)) (tC (.int 1)) (tKn sp_ldraw (tCons (tVar 1) (tCons (tC (.int 7)) tNil)))) tNil))) (gName 2))
    (tSeq (tAsg (tKn sp_ltree (tCons (tVar 1) (tCons (tKn sp_lmixed (tCons (tVar 1) (tCons (tVar 2) tNil))) (tCons (tC (.int 3)) tNil)))) (gName 3))
    (tSeq (tAsg (tKn sp_levery (tCons (tVar 2) tNil)) (gName 4))
    (tSeq (tAsg (tCB (rSortRows K) (tCons (tLc (iZip K (tCons (tVar 4) (tCons (tKn sp_lwords (tCons (tVar 3) (tCons (tVar 4) tNil))) tNil))) (gTup K 2 (gCons (gName 10) (gCons (gName 12) gNil))) (tB (tVar 12)) (tVar 10) [10, 12]) tNil)) (gName 5))
    (tSeq (tFor (iRng1 (tCons (tCB (fun xs H Q => ∃ i j, xs = [.int i, .int j] ∧ Q (.int (if j < i then j else i)) H) (tCons (tC (.int 5)) (tCons (tCB (fun xs H Q => ∃ p ys, xs = [.ref p] ∧ (SqL K H p ys ∨ SqT K H p ys) ∧ Q (.int ys.length) H) (tCons (tVar 5) tNil)) tNil))) tNil)) (gName 6) (tSeq (tAsg (tIf (tTest (tOp (rI0 fun i j => .bl (decide (i < j))) (tCB (fun xs H Q => ∃ p ys, xs = [.ref p] ∧ (SqL K H p ys ∨ SqT K H p ys) ∧ Q (.int ys.length) H) (tCons (tVar 5) tNil)) (tC (.int 6)))) (tVar 6) (tKn sp_ldraw (tCons (tVar 1) (tCons (tCB (fun xs H Q => ∃ p ys, xs = [.ref p] ∧ (SqL K H p ys ∨ SqT K H p ys) ∧ Q (.int ys.length) H) (tCons (tVar 5) tNil)) tNil)))) (gName 7))
    (tSeq (tAsg (tLst (tCons (tKn sp_ltold (tCons (tVar 3) (tCons (tVar 7) (tCons (tOp (rI (fun _ j => j ≠ 0) fun i j => .int (i.fmod j)) (tCB (fun xs H Q => (∃ i, xs = [.int i] ∧ Q (.int i) H) ∨ ∃ k, xs = [.bl k] ∧ Q (.int (if k then 1 else 0)) H) (tCons (tVar 6) tNil)) (tC (.int 2))) tNil)))) (tCons (tKn sp_ltold (tCons (tVar 3) (tCons (tOp (rIxL K) (tVar 5) (tVar 7)) (tCons (tC (.int 2)) tNil)))) tNil))) (gName 8))
    (tIfS (tTest (tOp rNe (tCB (rRepr K) (tCons (tVar 8) tNil)) (tCB (rRepr K) (tCons (tLst (tCons (tLst (tCons (tC (.str "told")) (tCons (tOp (rIxL K) (tVar 5) (tVar 7)) tNil))) (tCons (tLst (tCons (tC (.str "told")) (tCons (tVar 7) tNil))) tNil))) tNil)))) (tRet (tC (.bl false))) tNext))))
    (tSeq (tIfS (tNot (tB (tKn sp_lcounted (tCons (tVar 1) (tCons (tVar 3) (tCons (tVar 2) (tCons (tVar 5) tNil))))))) (tRet (tC (.bl false))) tNext)
    (tSeq (tIfS (tNot (tB (tKn sp_lodd (tCons (tVar 1) (tCons (tVar 3) (tCons (tVar 2) (tCons (tKn sp_lpick (tCons (tVar 1) (tCons (tVar 5) tNil))) (tCons (tCB (fun xs H Q => ∃ p ys, xs = [.ref p] ∧ (SqL K H p ys ∨ SqT K H p ys) ∧ Q (.int ys.length) H) (tCons (tVar 5) tNil)) tNil)))))))) (tRet (tC (.bl false))) tNext)
    (tSeq (tIfS (tTest (tOp rEq (tKn sp_ldraw (tCons (tVar 1) (tCons (tC (.int 10)) tNil))) (tC (.int 0)))) (tRet (tKn sp_lwide (tCons (tVar 1) tNil))) tNext)
    (tSeq (tAsg (tKn sp_lbuttons (tCons (tVar 1) (tCons (tIf (tTest (tOp rEq (tKn sp_ldraw (tCons (tVar 1) (tCons (tC (.int 8)) tNil))) (tC (.int 0)))) (tC (.int 17)) (tOp (rI0 fun i j => .int (i + j)) (tC (.int 8)) (tKn sp_ldraw (tCons (tVar 1) (tCons (tC (.int 5)) tNil))))) tNil))) (gName 2))
    (tSeq (tAsg (tKn sp_ltree (tCons (tVar 1) (tCons (tKn sp_lmixed (tCons (tVar 1) (tCons (tVar 2) tNil))) (tCons (tC (.int 4)) tNil)))) (gName 3))
    (tSeq (tPar 9 10 (tCons (tOp (rIxT K) (tKn sp_lsides (tCons (tVar 3) (tCons (tTup tNil) (tCons (tTup tNil) tNil)))) (tC (.int 0))) (tCons (tTup tNil) tNil)))
    (tSeq (tFor (iList K (tSl (rSlL K) (tLst (tCons (tKn sp_ldraw (tCons (tVar 1) (tCons (tVar 9) tNil))) (tCons (tOp (rI0 fun i j => .int (i - j)) (tVar 9) (tC (.int 1))) tNil))) tNoPart (tPart (tIf (tTest (tOp (rI0 fun i j => .bl (decide (i < j))) (tCB (fun xs H Q => ∃ p ys, xs = [.ref p] ∧ (SqL K H p ys ∨ SqT K H p ys) ∧ Q (.int ys.length) H) (tCons (tVar 2) tNil)) (tC (.int 11)))) (tC (.int 2)) (tC (.int 1)))))) (gName 7) (tSeq (tAsg (tKn sp_ltold (tCons (tVar 3) (tCons (tVar 7) (tCons (tC (.int 1)) tNil)))) (gName 11))
    (tSeq (tIfS (tOr (tTest (tOp rNe (tOp (rIxL K) (tVar 11) (tC (.int 0))) (tC (.str "told")))) (tTest (tOp rNe (tCB (rRepr K) (tCons (tKn sp_ltold (tCons (tVar 3) (tCons (tOp (rIxL K) (tVar 11) (tC (.int 1))) (tCons (tC (.int 3)) tNil)))) tNil)) (tCB (rRepr K) (tCons (tLst (tCons (tC (.str "told")) (tCons (tVar 7) tNil))) tNil))))) (tRet (tC (.bl false))) tNext)
    (tSeq (tAsg (tOp (rIxL K) (tVar 11) (tC (.int 1))) (gName 10))
    (tSeq (tIfS (tOr (tNot (tB (tCB (rIsi K) (tCons (tVar 10) (tCons (tC (.ty "tuple")) tNil))))) (tTest (tOp (rNeD K) (tLc (iTup K (tVar 10)) (gName 13) (tOr (tTest (tOp (rIn K true) (tVar 13) (tVar 2))) (tB (tCB (rIsi K) (tCons (tVar 13) (tCons (tC (.ty "bool")) tNil))))) (tC (.int 1)) [13]) (tLst tNil)))) (tRet (tC (.bl false))) tNext)
    (tIfS (tOr (tNot (tB (tKn sp_lgoes (tCons (tVar 3) (tCons (tVar 10) tNil))))) (tTest (tOp rNe (tKn sp_lnumber (tCons (tVar 3) (tCons (tVar 10) tNil))) (tVar 7)))) (tRet (tC (.bl false))) tNext))))))
    (tRet (tAndV (tKn sp_lcounted (tCons (tVar 1) (tCons (tVar 3) (tCons (tVar 2) (tCons (tC .non) tNil))))) (tKn sp_lodd (tCons (tVar 1) (tCons (tVar 3) (tCons (tVar 2) (tCons (tVar 10) (tCons (tVar 9) tNil)))))))))))))))))))))
theorem d_llaw {P : Program} {w : World} {K : PySem.W.Frag} {mg : Str → Option Value} {base : Heap} (T : Txt K mg) {sp_lbag sp_lbuttons sp_ldraw sp_ltree sp_lmixed sp_levery sp_lwords sp_ltold sp_lcounted sp_lodd sp_lpick sp_lwide sp_lsides sp_lgoes sp_lnumber : Sp} {k : Nat} {k_lbag : Nat} (l_lbag : k_lbag ≤ k) (C_lbag : Kn P w K mg base CX0 k_lbag "_law_bag" ["_law_script"] sp_lbag) {k_lbuttons : Nat} (l_lbuttons : k_lbuttons ≤ k) (C_lbuttons : Kn P w K mg base CX0 k_lbuttons "_law_buttons" ["_law_bag_here", "_law_many"] sp_lbuttons) {k_ldraw : Nat} (l_ldraw : k_ldraw ≤ k) (C_ldraw : Kn P w K mg base CX0 k_ldraw "_law_draw" ["_law_bag_here", "_law_many"] sp_ldraw) {k_ltree : Nat} (l_ltree : k_ltree ≤ k) (C_ltree : Kn P w K mg base CX0 k_ltree "_law_tree" ["_law_bag_here", "_law_row", "_law_deep"] sp_ltree) {k_lmixed : Nat} (l_lmixed : k_lmixed ≤ k) (C_lmixed : Kn P w K mg base CX0 k_lmixed "_law_mixed" ["_law_bag_here", "_law_items"] sp_lmixed) {k_levery : Nat} (l_levery : k_levery ≤ k) (C_levery : Kn P w K mg base CX0 k_levery "_law_every" ["_law_row"] sp_levery) {k_lwords : Nat} (l_lwords : k_lwords ≤ k) (C_lwords : Kn P w K mg base CX0 k_lwords "_law_words" ["_law_tree_here", "_law_every_here"] sp_lwords) {k_ltold : Nat} (l_ltold : k_ltold ≤ k) (C_ltold : Kn P w K mg base CX0 k_ltold "_law_told" ["_law_tree_here", "_law_thing", "_law_way"] sp_ltold) {k_lcounted : Nat} (l_lcounted : k_lcounted ≤ k) (C_lcounted : Kn P w K mg base CX0 k_lcounted "_law_are_counted" ["_law_bag_here", "_law_tree_here", "_law_row", "_law_going"] sp_lcounted) {k_lodd : Nat} (l_lodd : k_lodd ≤ k) (C_lodd : Kn P w K mg base CX0 k_lodd "_law_is_odd_refused" ["_law_bag_here", "_law_tree_here", "_law_row", "_law_some", "_law_many"] sp_lodd) {k_lpick : Nat} (l_lpick : k_lpick ≤ k) (C_lpick : Kn P w K mg base CX0 k_lpick "_law_pick" ["_law_bag_here", "_law_items"] sp_lpick) {k_lwide : Nat} (l_lwide : k_lwide ≤ k) (C_lwide : Kn P w K mg base CX0 k_lwide "_law_is_widest" ["_law_bag_here"] sp_lwide) {k_lsides : Nat} (l_lsides : k_lsides ≤ k) (C_lsides : Kn P w K mg base CX0 k_lsides "_law_sides" ["_law_tree_here", "_law_must", "_law_never"] sp_lsides) {k_lgoes : Nat} (l_lgoes : k_lgoes ≤ k) (C_lgoes : Kn P w K mg base CX0 k_lgoes "_law_goes" ["_law_tree_here", "_law_some"] sp_lgoes) {k_lnumber : Nat} (l_lnumber : k_lnumber ≤ k) (C_lnumber : Kn P w K mg base CX0 k_lnumber "_law_number" ["_law_tree_here", "_law_some"] sp_lnumber) {f : Addr} {cdv : Value} {A : Around} {outer : List Env} {s : Shared} {H : Hp} {E : XK} (hr : Room k (A.deeper (envOfC "law" (defScope s_llaw) s.heap.objs.size f cdv))) (hgu : A.guards = some []) :
    PSs (cxOf (CX0) P w K mg base N_llaw "law" (defScope s_llaw) f cdv A outer s H E).nox (defBody s_llaw) (t_llaw K w sp_lbag sp_lbuttons sp_ldraw sp_ltree sp_lmixed sp_levery sp_lwords sp_ltold sp_lcounted sp_lodd sp_lpick sp_lwide sp_lsides sp_lgoes sp_lnumber) :=
  (pss_cons (ps_set (i := 1) sc_llaw.nd rfl (Or.inl rfl) (pe_kn C_lbag (hr.mono (by omega)) (by rfl) (pa_cons (pv 0) pa_nil)))
    (pss_cons (ps_set (i := 2) sc_llaw.nd rfl (Or.inr rfl) (pe_kn C_lbuttons (hr.mono (by omega)) (by rfl) (pa_cons (pv 1) (pa_cons (pe_op op_add pe_int (pe_kn C_ldraw (hr.mono (by omega)) (by rfl) (pa_cons (pv 1) (pa_cons pe_int pa_nil)))) pa_nil))))
    (pss_cons (ps_set (i := 3) sc_llaw.nd rfl (Or.inl rfl) (pe_kn C_ltree (hr.mono (by omega)) (by rfl) (pa_cons (pv 1) (pa_cons (pe_kn C_lmixed (hr.mono (by omega)) (by rfl) (pa_cons (pv 1) (pa_cons (pv 2) pa_nil))) (pa_cons pe_int pa_nil)))))
    (pss_cons (ps_set (i := 4) sc_llaw.nd rfl (Or.inl rfl) (pe_kn C_levery (hr.mono (by omega)) (by rfl) (pa_cons (pv 2) pa_nil)))
    (pss_cons (ps_set (i := 5) sc_llaw.nd rfl (Or.inl rfl) (pe_callB (cr_sortedRows hr.units) (by rfl) T.m_sorted b_sorted (pa_cons (pe_lc (own := [("_law_some", 10), ("_law_word", 12)]) (g := (gTup K 2 (gCons (gName 10) (gCons (gName 12) gNil)))) (tt := (tB (tVar 12))) (te := (tVar 10)) rfl sc_llaw.nd (pi_zip (by rfl) T.m_zip (pa_cons (pv 4) (pa_cons (pe_kn C_lwords (hr.mono (by omega)) (by rfl) (pa_cons (pv 3) (pa_cons (pv 4) pa_nil))) pa_nil))) (blkOk_by (own := [("_law_some", 10), ("_law_word", 12)]) (N := N_llaw) (sc := defScope s_llaw) (by decide +kernel)) (fun _ _ _ _ _ => (pg_tup rfl (pgs_cons (pg_name (i := 10) sc_llaw.nd rfl (Or.inl rfl)) (pgs_cons (pg_name (i := 12) sc_llaw.nd rfl (Or.inl rfl)) pgs_nil)))) (fun _ _ _ _ _ => (pts_one (pt_val (pv 12)))) (fun _ _ _ _ _ => (pv 10))) pa_nil)))
    (pss_cons (ps_for PassesOwn.never rfl (pi_range1 (by rfl) T.m_range (pa_cons (pe_callB (call_min2 rfl) (by rfl) T.m_min b_min (pa_cons pe_int (pa_cons (pe_callB call_len_seq (by rfl) T.m_len b_len (pa_cons (pv 5) pa_nil)) pa_nil))) pa_nil)) (pg_name (i := 6) sc_llaw.nd rfl (Or.inl rfl)) (pss_cons (ps_set (i := 7) sc_llaw.nd rfl (Or.inl rfl) (pe_ifExp (pt_cmpR op_lt (pe_callB call_len_seq (by rfl) T.m_len b_len (pa_cons (pv 5) pa_nil)) pe_int (nomark _)) (pv 6) (pe_kn C_ldraw (hr.mono (by omega)) (by rfl) (pa_cons (pv 1) (pa_cons (pe_callB call_len_seq (by rfl) T.m_len b_len (pa_cons (pv 5) pa_nil)) pa_nil)))))
    (pss_cons (ps_set (i := 8) sc_llaw.nd rfl (Or.inl rfl) (pe_lst (pa_cons (pe_kn C_ltold (hr.mono (by omega)) (by rfl) (pa_cons (pv 3) (pa_cons (pv 7) (pa_cons (pe_op op_modN (pe_callTy call_int1 (by rfl) T.m_int b_int (pa_cons (pv 6) pa_nil)) pe_int) pa_nil)))) (pa_cons (pe_kn C_ltold (hr.mono (by omega)) (by rfl) (pa_cons (pv 3) (pa_cons (pe_ix ix_list (pv 5) (pv 7) (fun _ _ => rfl)) (pa_cons pe_int pa_nil)))) pa_nil))))
    (pss_one (ps_if (pt_cmpR op_ne (pe_callB (call_repr_data hgu hr.units) (by rfl) T.m_repr b_repr (pa_cons (pv 8) pa_nil)) (pe_callB (call_repr_data hgu hr.units) (by rfl) T.m_repr b_repr (pa_cons (pe_lst (pa_cons (pe_lst (pa_cons pe_str (pa_cons (pe_ix ix_list (pv 5) (pv 7) (fun _ _ => rfl)) pa_nil))) (pa_cons (pe_lst (pa_cons pe_str (pa_cons (pv 7) pa_nil))) pa_nil))) pa_nil)) (nomark _)) (pss_one (ps_ret pe_bl)) pss_nil)))))
    (pss_cons (ps_if (pt_not (pt_val (pe_kn C_lcounted (hr.mono (by omega)) (by rfl) (pa_cons (pv 1) (pa_cons (pv 3) (pa_cons (pv 2) (pa_cons (pv 5) pa_nil))))))) (pss_one (ps_ret pe_bl)) pss_nil)
    (pss_cons (ps_if (pt_not (pt_val (pe_kn C_lodd (hr.mono (by omega)) (by rfl) (pa_cons (pv 1) (pa_cons (pv 3) (pa_cons (pv 2) (pa_cons (pe_kn C_lpick (hr.mono (by omega)) (by rfl) (pa_cons (pv 1) (pa_cons (pv 5) pa_nil))) (pa_cons (pe_callB call_len_seq (by rfl) T.m_len b_len (pa_cons (pv 5) pa_nil)) pa_nil)))))))) (pss_one (ps_ret pe_bl)) pss_nil)
    (pss_cons (ps_if (pt_cmpR op_eq (pe_kn C_ldraw (hr.mono (by omega)) (by rfl) (pa_cons (pv 1) (pa_cons pe_int pa_nil))) pe_int (nomark _)) (pss_one (ps_ret (pe_kn C_lwide (hr.mono (by omega)) (by rfl) (pa_cons (pv 1) pa_nil)))) pss_nil)
    (pss_cons (ps_set (i := 2) sc_llaw.nd rfl (Or.inr rfl) (pe_kn C_lbuttons (hr.mono (by omega)) (by rfl) (pa_cons (pv 1) (pa_cons (pe_ifExp (pt_cmpR op_eq (pe_kn C_ldraw (hr.mono (by omega)) (by rfl) (pa_cons (pv 1) (pa_cons pe_int pa_nil))) pe_int (nomark _)) pe_int (pe_op op_add pe_int (pe_kn C_ldraw (hr.mono (by omega)) (by rfl) (pa_cons (pv 1) (pa_cons pe_int pa_nil))))) pa_nil))))
    (pss_cons (ps_set (i := 3) sc_llaw.nd rfl (Or.inl rfl) (pe_kn C_ltree (hr.mono (by omega)) (by rfl) (pa_cons (pv 1) (pa_cons (pe_kn C_lmixed (hr.mono (by omega)) (by rfl) (pa_cons (pv 1) (pa_cons (pv 2) pa_nil))) (pa_cons pe_int pa_nil)))))
    (pss_cons (ps_par (i := 9) (j := 10) rfl sc_llaw.nd rfl rfl (by decide) rfl rfl (pa_cons (pe_ix ix_tup (pe_kn C_lsides (hr.mono (by omega)) (by rfl) (pa_cons (pv 3) (pa_cons (pe_tup pa_nil) (pa_cons (pe_tup pa_nil) pa_nil)))) pe_int (fun _ _ => rfl)) (pa_cons (pe_tup pa_nil) pa_nil)) (by rfl))
    (pss_cons (ps_for PassesOwn.never rfl (pi_list (pe_slice sl_list (pe_lst (pa_cons (pe_kn C_ldraw (hr.mono (by omega)) (by rfl) (pa_cons (pv 1) (pa_cons (pv 9) pa_nil))) (pa_cons (pe_op op_sub (pv 9) pe_int) pa_nil))) po_none (po_some (pe_ifExp (pt_cmpR op_lt (pe_callB call_len_seq (by rfl) T.m_len b_len (pa_cons (pv 2) pa_nil)) pe_int (nomark _)) pe_int pe_int)))) (pg_name (i := 7) sc_llaw.nd rfl (Or.inl rfl)) (pss_cons (ps_set (i := 11) sc_llaw.nd rfl (Or.inl rfl) (pe_kn C_ltold (hr.mono (by omega)) (by rfl) (pa_cons (pv 3) (pa_cons (pv 7) (pa_cons pe_int pa_nil)))))
    (pss_cons (ps_if (PW.pt (pw_or (pt_cmpR op_ne (pe_ix ix_list (pv 11) pe_int (fun _ _ => rfl)) pe_str (nomark _)) (pw_or1 (pt_cmpR op_ne (pe_callB (call_repr_data hgu hr.units) (by rfl) T.m_repr b_repr (pa_cons (pe_kn C_ltold (hr.mono (by omega)) (by rfl) (pa_cons (pv 3) (pa_cons (pe_ix ix_list (pv 11) pe_int (fun _ _ => rfl)) (pa_cons pe_int pa_nil)))) pa_nil)) (pe_callB (call_repr_data hgu hr.units) (by rfl) T.m_repr b_repr (pa_cons (pe_lst (pa_cons pe_str (pa_cons (pv 7) pa_nil))) pa_nil)) (nomark _))))) (pss_one (ps_ret pe_bl)) pss_nil)
    (pss_cons (ps_set (i := 10) sc_llaw.nd rfl (Or.inl rfl) (pe_ix ix_list (pv 11) pe_int (fun _ _ => rfl)))
    (pss_cons (ps_if (PW.pt (pw_or (pt_not (pt_val (pe_callB call_isi (by rfl) T.m_isinstance b_isinstance (pa_cons (pv 10) (pa_cons (pe_bltn (v := .ty "tuple") (by rfl) T.m_tuple b_tuple rfl) pa_nil))))) (pw_or1 (pt_cmpR (op_neD hr.units) (pe_lc (own := [("_law_own", 13)]) (g := (gName 13)) (tt := (tOr (tTest (tOp (rIn K true) (tVar 13) (tVar 2))) (tB (tCB (rIsi K) (tCons (tVar 13) (tCons (tC (.ty "bool")) tNil)))))) (te := (tC (.int 1))) rfl sc_llaw.nd (pi_tup (pv 10)) (blkOk_by (own := [("_law_own", 13)]) (N := N_llaw) (sc := defScope s_llaw) (by decide +kernel)) (fun _ _ _ _ _ => (pg_name (i := 13) sc_llaw.nd rfl (Or.inl rfl))) (fun _ _ _ _ _ => (pts_one (PW.pt (pw_or (pt_cmpR op_notIn_seq (pv 13) (pv 2) (by rfl)) (pw_or1 (pt_val (pe_callB call_isi (by rfl) T.m_isinstance b_isinstance (pa_cons (pv 13) (pa_cons (pe_bltn (v := .ty "bool") (by rfl) T.m_bool b_bool rfl) pa_nil))))))))) (fun _ _ _ _ _ => pe_int)) (pe_lst pa_nil) (nomark _))))) (pss_one (ps_ret pe_bl)) pss_nil)
    (pss_one (ps_if (PW.pt (pw_or (pt_not (pt_val (pe_kn C_lgoes (hr.mono (by omega)) (by rfl) (pa_cons (pv 3) (pa_cons (pv 10) pa_nil))))) (pw_or1 (pt_cmpR op_ne (pe_kn C_lnumber (hr.mono (by omega)) (by rfl) (pa_cons (pv 3) (pa_cons (pv 10) pa_nil))) (pv 7) (nomark _))))) (pss_one (ps_ret pe_bl)) pss_nil)))))))
    (pss_one (ps_ret (pe_and (pe_kn C_lcounted (hr.mono (by omega)) (by rfl) (pa_cons (pv 1) (pa_cons (pv 3) (pa_cons (pv 2) (pa_cons pe_non pa_nil))))) (pe_one (pe_kn C_lodd (hr.mono (by omega)) (by rfl) (pa_cons (pv 1) (pa_cons (pv 3) (pa_cons (pv 2) (pa_cons (pv 10) (pa_cons (pv 9) pa_nil)))))))))))))))))))))))

end K19

namespace K19
open PySem PySem.Spec PyProof.Rows L2

theorem AnyV.int_iff {K : PySem.W.Frag} {H : Hp} {v : V} {n : String} (a : AnyV K H v n) : n = "int" ↔ ∃ i, v = .int i := by
  obtain ⟨t, _⟩ := a
  have key : ∀ {T : Value}, TyX K H v T → (T = .type "int" ↔ ∃ i, v = .int i) := by
    intro T h
    have no : ∀ {m : String} {P : Prop}, m ≠ "int" → ((Value.type m = .type "int") ↔ False) := fun hm => ⟨fun e => hm (Value.type.inj e), False.elim⟩
    cases h with
    | base b =>
      cases b with
      | non => exact ⟨fun e => absurd (Value.type.inj e) (by decide), fun ⟨i, e⟩ => nomatch e⟩
      | bl x => exact ⟨fun e => absurd (Value.type.inj e) (by decide), fun ⟨i, e⟩ => nomatch e⟩
      | int i => exact ⟨fun _ => ⟨i, rfl⟩, fun _ => rfl⟩
      | str x => exact ⟨fun e => absurd (Value.type.inj e) (by decide), fun ⟨i, e⟩ => nomatch e⟩
      | flt x => exact ⟨fun e => absurd (Value.type.inj e) (by decide), fun ⟨i, e⟩ => nomatch e⟩
      | lst e => exact ⟨fun e => absurd (Value.type.inj e) (by decide), fun ⟨i, e⟩ => nomatch e⟩
      | frz e => exact ⟨fun e => absurd (Value.type.inj e) (by decide), fun ⟨i, e⟩ => nomatch e⟩
      | tup e => exact ⟨fun e => absurd (Value.type.inj e) (by decide), fun ⟨i, e⟩ => nomatch e⟩
      | dK e => exact ⟨fun e => absurd (Value.type.inj e) (by decide), fun ⟨i, e⟩ => nomatch e⟩
      | dT e => exact ⟨fun e => absurd (Value.type.inj e) (by decide), fun ⟨i, e⟩ => nomatch e⟩
      | ins e cl ha hn htk hm => exact ⟨fun e => (nomatch e), fun ⟨i, e⟩ => nomatch e⟩
    | byt b => exact ⟨fun e => absurd (Value.type.inj e) (by decide), fun ⟨i, e⟩ => nomatch e⟩
    | set e => exact ⟨fun e => absurd (Value.type.inj e) (by decide), fun ⟨i, e⟩ => nomatch e⟩
    | kList e c => exact ⟨fun e => absurd (Value.type.inj e) (by decide), fun ⟨i, e⟩ => nomatch e⟩
    | kTuple e c => exact ⟨fun e => absurd (Value.type.inj e) (by decide), fun ⟨i, e⟩ => nomatch e⟩
    | kDict e c => exact ⟨fun e => absurd (Value.type.inj e) (by decide), fun ⟨i, e⟩ => nomatch e⟩
    | fTuple e => exact ⟨fun e => absurd (Value.type.inj e) (by decide), fun ⟨i, e⟩ => nomatch e⟩
    | fDict e => exact ⟨fun e => absurd (Value.type.inj e) (by decide), fun ⟨i, e⟩ => nomatch e⟩
  exact ⟨fun e => (key t).mp (by rw [e]), fun e => Value.type.inj ((key t).mpr e)⟩

/-! ### is_integer, is_button, is_trip -/
def isIntV : V → Bool
  | .int _ => true
  | _ => false
theorem isIntV_is {K : PySem.W.Frag} {H : Hp} {v : V} {n : String} (a : AnyV K H v n) : decide (n = "int") = isIntV v := by
  by_cases e : n = "int"
  · obtain ⟨i, rfl⟩ := a.int_iff.mp e
    rw [decide_eq_true e]
    rfl
  · rw [decide_eq_false e]
    cases v with
    | int i => exact absurd (a.int_iff.mpr ⟨i, rfl⟩) e
    | _ => rfl
def sp_isint (K : PySem.W.Frag) : Sp := fun vs H Q _ => ∃ (v : V) (n : String), vs = [v] ∧ AnyV K H v n ∧ Q (.bl (isIntV v)) H
theorem law_isint {K : PySem.W.Frag} {w : World} (vs : List V) (H : Hp) (Q : VK) (E : XK) (h : sp_isint K vs H Q E) : t_isint K w { nx := fun _ H' => Q .non H', rt := Q } (start N_isint vs) H := by
  obtain ⟨v, n, rfl, a, q⟩ := h
  refine ⟨v, rfl, v, .ty "int", _, _, _, rfl, .ty "int", a.ty, isi_ans a.kn (by simp), _, rfl, ?_⟩
  rw [← isIntV_is a] at q
  by_cases e : n = "int"
  · rw [decide_eq_true e] at q
    subst e
    exact iteT ⟨v, rfl, v, .ty "bool", _, _, _, rfl, .ty "bool", a.ty, isi_ans a.kn (by simp), _, rfl, q⟩
  · rw [decide_eq_false e] at q
    by_cases e2 : n = "bool"
    · subst e2
      exact iteT ⟨v, rfl, v, .ty "bool", _, _, _, rfl, .ty "bool", a.ty, isi_ans a.kn (by simp), _, rfl, q⟩
    · refine ite2 (fun c => ?_) fun _ => q
      simp [e, e2] at c
def isBtn : V → Bool
  | .int i => decide (0 ≤ i) && decide (i ≤ 99)
  | _ => false
def sp_isbtn (K : PySem.W.Frag) : Sp := fun vs H Q _ => ∃ (v : V) (n : String), vs = [v] ∧ AnyV K H v n ∧ Q (.bl (isBtn v)) H
theorem law_isbtn {K : PySem.W.Frag} {w : World} (vs : List V) (H : Hp) (Q : VK) (E : XK) (h : sp_isbtn K vs H Q E) : t_isbtn K w (sp_isint K) { nx := fun _ H' => Q .non H', rt := Q } (start N_isbtn vs) H := by
  obtain ⟨v, n, rfl, a, q⟩ := h
  refine ⟨v, rfl, v, n, rfl, a, _, rfl, ?_⟩
  cases v with
  | int i =>
    refine iteT ⟨_, rfl, 0, i, rfl, rfl, _, rfl, ?_⟩
    refine ite2 (fun c => ?_) (fun c => ?_)
    · refine ⟨i, 99, rfl, rfl, ?_⟩
      simpa [isBtn, of_decide_eq_true c] using q
    · have c' : decide (0 ≤ i) = false := Bool.eq_false_iff.mpr c
      simpa [isBtn, c'] using q
  | _ => exact iteF q
def Tr.isNode : Tr → Bool
  | .leaf _ => false
  | .node _ _ => true
theorem TrAt.any {K : PySem.W.Frag} {H : Hp} : ∀ {t : Tr} {v : V}, TrAt K H t v → AnyV K H v (if t.isNode then "tuple" else "int")
  | .leaf b, v, h => by
    simp only [TrAt] at h
    rw [h]
    exact any_int b
  | .node k ps, v, h => by
    simp only [TrAt] at h
    obtain ⟨a, q, xs, rfl, h1, _⟩ := h
    exact any_tup h1
def sp_istrip (K : PySem.W.Frag) : Sp := fun vs H Q _ => ∃ (t : Tr) (v : V), vs = [v] ∧ TrAt K H t v ∧ Q (.bl t.isNode) H
theorem law_istrip {K : PySem.W.Frag} {w : World} (vs : List V) (H : Hp) (Q : VK) (E : XK) (h : sp_istrip K vs H Q E) : t_istrip K w { nx := fun _ H' => Q .non H', rt := Q } (start N_istrip vs) H := by
  obtain ⟨t, v, rfl, ht, q⟩ := h
  refine ⟨v, rfl, v, .ty "tuple", _, _, _, rfl, .ty "tuple", ht.any.ty, isi_ans ht.any.kn (by simp), ?_⟩
  cases t with
  | leaf b => exact q
  | node k ps => exact q

/-! ### a node's places -/
theorem at0 {α : Type} {x y : α} : atI [x, y] 0 = some x := rfl
theorem at1 {α : Type} {x y : α} : atI [x, y] 1 = some y := rfl

/-! ### buttons_in_order, buttons_of -/
def sp_bio (K : PySem.W.Frag) (n : Nat) : Sp := fun vs H Q _ => ∃ (t : Tr) (v : V), vs = [v] ∧ TrAt K H t v ∧ t.depth < n ∧ t.leaves.length ≤ 1000 ∧
  ∀ (r : Addr) (H' : Hp), Same H H' → H r = none → H' r = some (.lst (t.leaves.map V.int)) → Q (.ref r) H'
theorem depthAll_get : ∀ {ps : List Tr} {i : Nat} {t : Tr}, ps[i]? = some t → t.depth ≤ Tr.depthAll ps
  | [], i, t, h => by simp at h
  | p :: ps, 0, t, h => by
    cases h
    simp only [Tr.depthAll]
    exact Nat.le_max_left _ _
  | p :: ps, i + 1, t, h => by
    simp only [Tr.depthAll]
    exact Nat.le_trans (depthAll_get (by simpa using h)) (Nat.le_max_right _ _)
theorem take_more {α : Type} {l : List α} {i : Nat} {x : α} (h : l[i]? = some x) : l.take (i + 1) = l.take i ++ [x] := by
  rw [List.take_add_one, h]
  rfl
theorem leavesAll_take {ps : List Tr} {i : Nat} {t : Tr} (h : ps[i]? = some t) : Tr.leavesAll (ps.take (i + 1)) = Tr.leavesAll (ps.take i) ++ t.leaves := by
  rw [take_more h, leavesAll_append]
  simp [Tr.leavesAll]
theorem leavesAll_split {ps : List Tr} {i : Nat} {t : Tr} (h : ps[i]? = some t) : ∃ more, Tr.leavesAll ps = Tr.leavesAll (ps.take i) ++ (t.leaves ++ more) := by
  refine ⟨Tr.leavesAll (ps.drop (i + 1)), ?_⟩
  have e : ps = ps.take i ++ (t :: ps.drop (i + 1)) := by
    obtain ⟨hi, ht⟩ := List.getElem?_eq_some_iff.mp h
    rw [← ht, ← List.drop_eq_getElem_cons hi, List.take_append_drop]
  conv => lhs; rw [e]
  rw [leavesAll_append]
  simp [Tr.leavesAll]
theorem leavesAll_take_le (ps : List Tr) (i : Nat) : (Tr.leavesAll (ps.take i)).length ≤ (Tr.leavesAll ps).length := by
  have h : Tr.leavesAll ps = Tr.leavesAll (ps.take i) ++ Tr.leavesAll (ps.drop i) := by
    rw [← leavesAll_append, List.take_append_drop]
  rw [h, List.length_append]
  omega
theorem law_bio {K : PySem.W.Frag} {w : World} {n : Nat} (vs : List V) (H : Hp) (Q : VK) (E : XK) (h : sp_bio K (n + 1) vs H Q E) : t_bio K w (sp_istrip K) (sp_bio K n) { nx := fun _ H' => Q .non H', rt := Q } (start N_bio vs) H := by
  obtain ⟨t, v, rfl, ht, hn, hl, q⟩ := h
  refine ⟨v, rfl, t, v, rfl, ht, _, rfl, ?_⟩
  cases t with
  | leaf b =>
    have ev : v = .int b := by simpa only [TrAt] using ht
    subst ev
    refine iteT ⟨_, rfl, (by show 1 ≤ sizeLine; decide), fun p np => ?_⟩
    exact q p _ (new_same _ np) np upd_same
  | node k ps =>
    refine iteF ?_
    simp only [TrAt] at ht
    simp only [Tr.leaves] at q hl
    simp only [Tr.depth] at hn
    obtain ⟨a, pq, xs, rfl, h1, h2, h3⟩ := ht
    refine ⟨(by show 0 ≤ sizeLine; decide), fun o no => ?_⟩
    have f0 : Fz [] H (upd H o (.lst [])) := Fz.new no
    refine ⟨_, rfl, a, _, _, _, rfl, rfl, f0.tup h1, at1, pq, rfl, ⟨xs, f0.tup h2⟩, for_tup (K := K) (a := pq) (xs := xs)
      (fun i σ H2 => ∃ x2, σ = [some (.ref a), some (.ref o), x2] ∧ Same H H2 ∧ H2 o = some (.lst ((Tr.leavesAll (ps.take i)).map V.int))) ⟨none, rfl, new_same _ no, upd_same⟩ (fun i σ H2 _ hP => ?_) ?_ ?_⟩
    · obtain ⟨_, _, s2, _⟩ := hP
      exact (Fz.of (ex := []) s2).tup h2
    · rintro i x σ H2 hx ⟨x2, rfl, s2, eo⟩
      obtain ⟨u, hu, tu⟩ := TrAll.get ps xs i x h3 hx
      have tu2 := TrAt.fz (Fz.of (ex := []) s2) u x tu
      obtain ⟨more, em⟩ := leavesAll_split hu
      have hdu := depthAll_get hu
      have hlu : (Tr.leavesAll (ps.take i)).length + u.leaves.length ≤ 1000 := by
        rw [em] at hl
        simp only [List.length_append] at hl
        omega
      refine ⟨_, rfl, .inl ⟨rfl, _, SqL.of eo⟩, _, rfl, u, x, rfl, tu2, by omega, by omega, fun r H3 s3 nr er => ?_⟩
      refine ⟨o, r, _, _, rfl, rfl, s3 _ _ eo, er, ?_, ?_⟩
      · rw [List.length_map, List.length_map]
        exact Nat.le_of_lt (small1000 hlu)
      · refine ⟨some x, rfl, fun b u' e => ?_, ?_⟩
        · have nb : b ≠ o := ne_of_none e no
          rw [upd_ne nb]
          exact s3 _ _ (s2 _ _ e)
        · rw [upd_same, leavesAll_take hu, List.map_append]
    · rintro σ H2 ⟨x2, rfl, s2, eo⟩
      refine ⟨_, rfl, q o H2 s2 no ?_⟩
      rw [eo, TrAll.length ps xs h3, List.take_length]
theorem len_bio {K : PySem.W.Frag} {n : Nat} : ∀ vs H Q E, sp_bio K n vs H Q E → vs.length = ["tree"].length := fun vs H Q E h => by
  obtain ⟨t, v, rfl, _⟩ := h
  rfl
def sp_bof (K : PySem.W.Frag) (n : Nat) : Sp := fun vs H Q _ => ∃ (t : Tr) (v : V) (row : List Int), vs = [v] ∧ TrAt K H t v ∧ t.depth < n ∧ t.leaves.length ≤ 1000 ∧ t.leaves.Perm row ∧ row.Pairwise (· < ·) ∧
  ∀ (r : Addr) (H' : Hp), Same H H' → H' r = some (.tup (row.map V.int)) → Q (.ref r) H'
theorem law_bof {K : PySem.W.Frag} {w : World} {n : Nat} (vs : List V) (H : Hp) (Q : VK) (E : XK) (h : sp_bof K n vs H Q E) : t_bof K w (sp_bio K n) { nx := fun _ H' => Q .non H', rt := Q } (start N_bof vs) H := by
  obtain ⟨t, v, row, rfl, ht, hn, hl, hp, hr, q⟩ := h
  refine ⟨v, rfl, t, v, rfl, ht, hn, hl, fun r H1 s1 nr er => ?_⟩
  refine ⟨r, t.leaves, rfl, SqL.of er, fun ns' p perm asc np => ?_⟩
  have e : ns' = row := List.Perm.eq_of_pairwise (le := fun a b => a ≤ b) (fun a b _ _ h1 h2 => Int.le_antisymm h1 h2) asc (hr.imp fun h => Int.le_of_lt h) (perm.trans hp)
  subst e
  refine ⟨p, _, rfl, .inl ⟨SqL.of upd_same, fun l nl => ?_⟩⟩
  exact q l _ (s1.trans ((new_same _ np).trans (new_same _ nl))) upd_same

/-! ### goes -/
def sp_goes (K : PySem.W.Frag) (n : Nat) : Sp := fun vs H Q _ => ∃ (t : Tr) (v : V) (a : Addr) (l : List Int), vs = [v, .ref a] ∧ TrAt K H t v ∧ (SqL K H a (l.map V.int) ∨ SqT K H a (l.map V.int)) ∧ t.depth < n ∧ t.wf ∧ t.leaves.length ≤ 1000 ∧
  ∀ H' : Hp, Same H H' → Q (.bl (t.goes l)) H'
mutual
theorem leaves_pos : ∀ t : Tr, t.wf → 1 ≤ t.leaves.length
  | .leaf b, _ => by simp [Tr.leaves]
  | .node k ps, w => by
    simp only [Tr.wf] at w
    simp only [Tr.leaves]
    have := parts_le ps w.2.2
    omega
theorem parts_le : ∀ ps : List Tr, Tr.wfAll ps → ps.length ≤ (Tr.leavesAll ps).length
  | [], _ => Nat.le_refl _
  | t :: ts, w => by
    simp only [Tr.wfAll] at w
    have h1 := leaves_pos t w.1
    have h2 := parts_le ts w.2
    simp only [Tr.leavesAll, List.length_append, List.length_cons]
    omega
end
theorem wfAll_get : ∀ {ps : List Tr} {i : Nat} {t : Tr}, Tr.wfAll ps → ps[i]? = some t → t.wf
  | [], i, t, _, h => by simp at h
  | p :: ps, 0, t, w, h => by
    simp only [Tr.wfAll] at w
    cases h
    exact w.1
  | p :: ps, i + 1, t, w, h => by
    simp only [Tr.wfAll] at w
    exact wfAll_get w.2 (by simpa using h)
theorem ngoes_take {l : List Int} {ps : List Tr} {i : Nat} {t : Tr} (h : ps[i]? = some t) : Tr.ngoes l (ps.take (i + 1)) = Tr.ngoes l (ps.take i) + (if t.goes l then 1 else 0) := by
  rw [take_more h, ngoes_append]
  simp [Tr.ngoes]
theorem seq_same {K : PySem.W.Frag} {H H' : Hp} {a : Addr} {xs : List V} (s : Same H H') (h : SqL K H a xs ∨ SqT K H a xs) : SqL K H' a xs ∨ SqT K H' a xs :=
  h.imp (fun h => s.seq h) fun h => (Fz.of (ex := []) s).tup h
/-- a new list at D grown by one -/
theorem same_grow {H H1 : Hp} {D : Addr} {o : HO} (nD : H D = none) (s : Same H H1) : Same H (upd H1 D o) := fun b u e => by
  rw [upd_ne (ne_of_none e nD)]
  exact s b u e
theorem leaves_part {ps : List Tr} {i : Nat} {t : Tr} (h : ps[i]? = some t) : t.leaves.length ≤ (Tr.leavesAll ps).length := by
  obtain ⟨more, e⟩ := leavesAll_split h
  rw [e]
  simp only [List.length_append]
  omega
theorem law_goes {K : PySem.W.Frag} {w : World} {n : Nat} (vs : List V) (H : Hp) (Q : VK) (E : XK) (h : sp_goes K (n + 1) vs H Q E) : t_goes K w (sp_istrip K) (sp_goes K n) { nx := fun _ H' => Q .non H', rt := Q } (start N_goes vs) H := by
  obtain ⟨t, v, a, l, rfl, ht, hs, hn, wf, hl, q⟩ := h
  refine ⟨v, rfl, t, v, rfl, ht, _, rfl, ?_⟩
  cases t with
  | leaf b =>
    have ev : v = .int b := by simpa only [TrAt] using ht
    subst ev
    refine iteT ⟨_, rfl, _, rfl, a, _, rfl, hs, rfl, flat_ints l, ?_⟩
    rw [if_neg Bool.false_ne_true, inV_ints]
    exact q H (Same.refl H)
  | node k ps =>
    refine iteF ?_
    simp only [TrAt] at ht
    simp only [Tr.leaves] at hl
    simp only [Tr.depth] at hn
    simp only [Tr.wf] at wf
    obtain ⟨av, pq, xs, rfl, h1, h2, h3⟩ := ht
    have hlen := TrAll.length ps xs h3
    have hparts := parts_le ps wf.2.2
    refine ⟨_, rfl, av, _, _, _, rfl, rfl, h1, at1, pq, rfl, ⟨xs, h2⟩, fun D nD => lc_tup (K := K) (a := pq) (xs := xs)
      (fun i H2 => Same H H2 ∧ H2 D = some (.lst (List.replicate (Tr.ngoes l (ps.take i)) (V.int 1)))) ⟨new_same _ nD, upd_same⟩ (fun i H2 _ hP => (Fz.of (ex := []) hP.1).tup h2) ?_ ?_⟩
    · rintro i x H2 hx ⟨s2, eD⟩
      obtain ⟨u, hu, tu⟩ := TrAll.get ps xs i x h3 hx
      have hdu := depthAll_get hu
      have hlu := leaves_part hu
      refine ⟨rfl, _, rfl, _, rfl, u, x, a, l, rfl, TrAt.fz (Fz.of (ex := []) s2) u x tu, seq_same s2 hs, by omega, wfAll_get wf.2.2 hu, by omega, fun H3 s3 => ⟨_, rfl, ?_⟩⟩
      have s23 := s2.trans s3
      refine ite2 (fun c => ?_) (fun c => ?_)
      · refine ⟨_, s3 _ _ eD, ?_, same_grow nD s23, ?_⟩
        · rw [List.length_replicate]
          have := ngoes_le l (ps.take i)
          rw [List.length_take] at this
          exact small1000 (by omega)
        · rw [upd_same, ngoes_take hu, if_pos c, List.replicate_succ']
      · refine ⟨s23, ?_⟩
        rw [ngoes_take hu, if_neg c]
        exact s3 _ _ eD
    · rintro H2 ⟨s2, eD⟩
      refine ⟨D, _, rfl, .inl (SqL.of eD), _, rfl, av, _, _, _, rfl, rfl, (Fz.of (ex := []) s2).tup h1, at0, _, _, rfl, rfl, ?_⟩
      rw [List.length_replicate, hlen, List.take_length]
      exact q H2 s2
theorem len_goes {K : PySem.W.Frag} {n : Nat} : ∀ vs H Q E, sp_goes K n vs H Q E → vs.length = ["tree", "lot"].length := fun vs H Q E h => by
  obtain ⟨t, v, a, l, rfl, _⟩ := h
  rfl
end K19

namespace K19
open PySem PySem.Spec PyProof.Rows L2

/-! ### small things -/
theorem walk_enumT {K : PySem.W.Frag} {a : Addr} {xs : List V} : Walk (IteT K a) xs.length (fun H => SqT K H a xs) (YPair (fun i => some (.int (i : Nat))) (fun i => xs[i]?)) := by
  refine ⟨fun i _ hi q => ⟨xs, xs[i], q, by simp [hi]⟩, fun _ q => ⟨xs, q, rfl⟩, fun i H v H' _ q y => ?_⟩
  obtain ⟨T, x, h1, h2, h3, h4⟩ := y
  exact ⟨T, .int (i : Nat), x, h1, h2, h3, rfl, h4 xs q⟩
section
variable {K : PySem.W.Frag} {a b : Addr} {xs ys : List V} {g : TG} {tb : TS} {D : Ends} {σ : L2.St} {H : Hp}
theorem for_enumT (Pv : Nat → L2.St → Hp → Prop) (h0 : Pv 0 σ H) (hl : ∀ i σ H, i ≤ xs.length → Pv i σ H → SqT K H a xs)
    (hs : ∀ (i : Nat) (x : V) (T : Addr) (σ : L2.St) (H : Hp), xs[i]? = some x → Pv i σ H → H T = none → g (.ref T) σ (upd H T (.tup [.int (i : Nat), x])) fun σ2 H2 => tb { D with nx := Pv (i + 1), ct := Pv (i + 1), bk := D.nx } σ2 H2) (hd : ∀ σ H, Pv xs.length σ H → D.nx σ H) :
    ∃ W : Nat → Nat → L2.St → Hp → Prop, (∃ m, W 0 m σ H) ∧ ∀ i m σ H, W i m σ H →
      ((IteT K a).stop i H ∧ D.nx σ H) ∨ ((IteT K a).go i H ∧ ∃ N : L2.St → Hp → Prop, (∀ σ' H', N σ' H' → ∃ m', m' < m ∧ W (i + 1) m' σ' H') ∧ ∀ x H', (IteT K a).yld i H x H' → g x σ H' fun σ2 H2 => tb { D with nx := N, ct := N, bk := D.nx } σ2 H2) :=
  for_it (walk_enumT (xs := xs)) Pv h0 hl (fun i x σ H H' hi hP y => by
    obtain ⟨T, u, v, rfl, nT, rfl, hu, hv⟩ := y
    cases hu
    exact hs i v T σ H hv hP nT) hd
theorem for_enum (Pv : Nat → L2.St → Hp → Prop) (h0 : Pv 0 σ H) (hl : ∀ i σ H, i ≤ xs.length → Pv i σ H → SqL K H a xs)
    (hs : ∀ (i : Nat) (x : V) (T : Addr) (σ : L2.St) (H : Hp), xs[i]? = some x → Pv i σ H → H T = none → g (.ref T) σ (upd H T (.tup [.int (i : Nat), x])) fun σ2 H2 => tb { D with nx := Pv (i + 1), ct := Pv (i + 1), bk := D.nx } σ2 H2) (hd : ∀ σ H, Pv xs.length σ H → D.nx σ H) :
    ∃ W : Nat → Nat → L2.St → Hp → Prop, (∃ m, W 0 m σ H) ∧ ∀ i m σ H, W i m σ H →
      ((Ite K a).stop i H ∧ D.nx σ H) ∨ ((Ite K a).go i H ∧ ∃ N : L2.St → Hp → Prop, (∀ σ' H', N σ' H' → ∃ m', m' < m ∧ W (i + 1) m' σ' H') ∧ ∀ x H', (Ite K a).yld i H x H' → g x σ H' fun σ2 H2 => tb { D with nx := N, ct := N, bk := D.nx } σ2 H2) :=
  for_it (walk_enum (xs := xs)) Pv h0 hl (fun i x σ H H' hi hP y => by
    obtain ⟨T, u, v, rfl, nT, rfl, hu, hv⟩ := y
    cases hu
    exact hs i v T σ H hv hP nT) hd
theorem lc_zip {tt : TT} {te : TE} {vs : List Nat} {H1 : Hp} {D : Addr} {Qd : Hp → Prop} (e : xs.length = ys.length) (Pv : Nat → Hp → Prop) (h0 : Pv 0 (upd H1 D (.lst []))) (hl : ∀ i H, i ≤ xs.length → Pv i H → SqL K H a xs ∧ SqL K H b ys)
    (hs : ∀ (i : Nat) (x y : V) (T : Addr) (H : Hp), xs[i]? = some x → ys[i]? = some y → Pv i H → H T = none → g (.ref T) (wipe σ vs) (upd H T (.tup [x, y])) fun σ2 H2 => wipe σ2 vs = wipe σ vs ∧ tt σ2 H2 fun b H3 =>
      if b = true then te σ2 H3 fun y H4 => ∃ acc, H4 D = some (.lst acc) ∧ acc.length < sizeLine ∧ Pv (i + 1) (upd H4 D (.lst (acc ++ [y]))) else Pv (i + 1) H3) (hd : ∀ H, Pv xs.length H → Qd H) :
    ∃ W : Nat → Nat → Hp → Prop, (∃ m, W 0 m (upd H1 D (.lst []))) ∧ ∀ i m H, W i m H →
      ((Itz K a b).stop i H ∧ Qd H) ∨ ((Itz K a b).go i H ∧ ∃ Nx : Hp → Prop, (∀ H', Nx H' → ∃ m', m' < m ∧ W (i + 1) m' H') ∧ ∀ x H', (Itz K a b).yld i H x H' → g x (wipe σ vs) H' fun σ2 H2 => wipe σ2 vs = wipe σ vs ∧ tt σ2 H2 fun b H3 =>
        if b = true then te σ2 H3 fun y H4 => ∃ acc, H4 D = some (.lst acc) ∧ acc.length < sizeLine ∧ Nx (upd H4 D (.lst (acc ++ [y]))) else Nx H3) :=
  lc_it (walk_zip (xs := xs) (ys := ys) (n := xs.length) (by omega)) Pv h0 hl (fun i x H H' hi hP y => by
    obtain ⟨T, u, v, rfl, nT, rfl, hu, hv⟩ := y
    exact hs i u v T H hu hv hP nT) hd
end
theorem cut_from {xs : List V} {k : Int} (h : 0 ≤ k) : cutV xs (some k) none = xs.drop k.toNat := by
  unfold cutV
  have e : HT.sIx xs.length 0 (some k) = min k.toNat xs.length := by
    show (if k < 0 then (k + (xs.length : Int)).toNat else min k.toNat xs.length) = _
    rw [if_neg (by omega)]
  rw [e, HT.sIx_none]
  rw [List.take_of_length_le (by rw [List.length_drop]; omega)]
  by_cases hk : k.toNat ≤ xs.length
  · rw [Nat.min_eq_left hk]
  · rw [Nat.min_eq_right (by omega), List.drop_of_length_le (by omega), List.drop_of_length_le (by omega)]
theorem cut_to {xs : List V} {k : Int} (h : 0 ≤ k) : cutV xs none (some k) = xs.take k.toNat := by
  unfold cutV
  have e : HT.sIx xs.length xs.length (some k) = min k.toNat xs.length := by
    show (if k < 0 then (k + (xs.length : Int)).toNat else min k.toNat xs.length) = _
    rw [if_neg (by omega)]
  rw [e, HT.sIx_none, List.drop_zero, Nat.sub_zero]
  by_cases hk : k.toNat ≤ xs.length
  · rw [Nat.min_eq_left hk]
  · rw [Nat.min_eq_right (by omega), List.take_of_length_le (Nat.le_refl _), List.take_of_length_le (by omega)]
theorem asc_of {l : List Int} (h : ∀ j a b, l[j]? = some a → l[j + 1]? = some b → a < b) : l.Pairwise (· < ·) := by
  induction l with
  | nil => exact List.Pairwise.nil
  | cons x r ih =>
    have hr := ih fun j a b ha hb => h (j + 1) a b (by simpa using ha) (by simpa using hb)
    refine List.pairwise_cons.mpr ⟨?_, hr⟩
    cases r with
    | nil => exact fun y hy => nomatch hy
    | cons z r =>
      have hz : x < z := h 0 x z rfl rfl
      intro y hy
      rcases List.mem_cons.mp hy with e | e
      · rw [e]
        exact hz
      · exact Int.lt_trans hz ((List.pairwise_cons.mp hr).1 y e)
theorem ints_of : ∀ {xs : List V}, (∀ x ∈ xs, isBtn x = true) → ∃ l : List Int, xs = l.map V.int ∧ ∀ b ∈ l, 0 ≤ b ∧ b ≤ 99
  | [], _ => ⟨[], rfl, fun b hb => nomatch hb⟩
  | x :: xs, h => by
    obtain ⟨l, e, hl⟩ := ints_of (xs := xs) fun y hy => h y (List.mem_cons_of_mem _ hy)
    have hx := h x List.mem_cons_self
    cases x with
    | int i =>
      refine ⟨i :: l, by rw [e]; rfl, fun b hb => ?_⟩
      rcases List.mem_cons.mp hb with q | q
      · rw [q]
        have hx' : (decide (0 ≤ i) && decide (i ≤ 99)) = true := hx
        simpa using hx'
      · exact hl b q
    | _ => cases hx
def GoodL (xs : List V) : Prop := ∃ l : List Int, xs = l.map V.int ∧ (∀ b ∈ l, 0 ≤ b ∧ b ≤ 99) ∧ l.Pairwise (· < ·) ∧ l.length ≤ 100

/-! ### lot_error -/
def sp_lerr (K : PySem.W.Frag) : Sp := fun vs H Q _ => ∃ (v : V) (n : String), vs = [v] ∧ AnyV K H v n ∧ (n ≠ "tuple" → Q (.str "form") H) ∧
  (n = "tuple" → ∃ (a : Addr) (xs : List V), v = .ref a ∧ SqT K H a xs ∧ (∀ x ∈ xs, ∃ m, AnyV K H x m) ∧ xs.length ≤ 1000 ∧ ∀ (y : V) (H' : Hp), Same H H' → (y = .non ↔ GoodL xs) → Q y H')
theorem law_lerr {K : PySem.W.Frag} {w : World} (vs : List V) (H : Hp) (Q : VK) (E : XK) (h : sp_lerr K vs H Q E) : t_lerr K w (sp_isbtn K) { nx := fun _ H' => Q .non H', rt := Q } (start N_lerr vs) H := by
  obtain ⟨v, n, rfl, a, q1, q2⟩ := h
  refine ⟨v, rfl, v, .ty "tuple", _, _, _, rfl, .ty "tuple", a.ty, isi_ans a.kn (by simp), _, rfl, ?_⟩
  by_cases e : n = "tuple"
  case neg =>
    have e1 : (decide (n = "tuple") || (decide (n = "bool") && decide ("tuple" = "int"))) = false := by simp [e]
    rw [e1]
    exact iteT (iteT (q1 e))
  subst e
  refine iteF ?_
  obtain ⟨p, xs, rfl, hx, han, hl, q⟩ := q2 rfl
  refine ⟨_, rfl, p, xs, rfl, .inr hx, _, _, rfl, rfl, _, rfl, ?_⟩
  refine ite2 (fun c => ?_) (fun c => ?_)
  · refine q (.str "form") H (Same.refl H) ⟨fun z => (nomatch z), fun ⟨l, e, _, _, hl⟩ => ?_⟩
    have c' := of_decide_eq_true c
    rw [e, List.length_map] at c'
    omega
  have c' : ¬ ((100 : Int) < xs.length) := fun z => c (decide_eq_true z)
  refine ⟨_, rfl, p, xs, rfl, hx, for_enumT (xs := xs) (fun i σ H2 => ∃ x1 x2, σ = [some (.ref p), x1, x2] ∧ Same H H2 ∧ ∀ (j : Nat) (x : V), j < i → xs[j]? = some x → isBtn x = true)
    ⟨none, none, rfl, Same.refl H, fun j x hj => absurd hj (Nat.not_lt_zero _)⟩ (fun i σ H2 _ hP => ?_) ?_ ?_⟩
  · obtain ⟨_, _, _, s2, _⟩ := hP
    exact (Fz.of (ex := []) s2).tup hx
  · rintro i x T σ H2 hxi ⟨x1, x2, rfl, s2, hb⟩ nT
    obtain ⟨m, am⟩ := han x (List.mem_of_getElem? hxi)
    have s3 := s2.trans (new_same (.tup [.int (i : Nat), x]) nT)
    refine ⟨T, _, rfl, SqT.inj upd_same, rfl, _, _, rfl, _, _, rfl, rfl, x, rfl, x, m, rfl, am.fz s3, _, rfl, ?_⟩
    refine ite2 (fun b => ?_) (fun b => ?_)
    · refine ⟨_, rfl, (by show 2 ≤ sizeLine; decide), fun r nr => ?_⟩
      refine q (.ref r) _ (s3.trans (new_same _ nr)) ⟨fun z => (nomatch z), fun ⟨l, e, hbt, _, _⟩ => ?_⟩
      rw [e] at hxi
      obtain ⟨z, hz, rfl⟩ := ints_get hxi
      have hh := hbt z (List.mem_of_getElem? hz)
      have : isBtn (.int z) = true := by
        show (decide (0 ≤ z) && decide (z ≤ 99)) = true
        simp [hh]
      rw [this] at b
      cases b
    · refine ⟨some (.int (i : Nat)), some x, rfl, s3, fun j y hj hy => ?_⟩
      rcases Nat.lt_succ_iff_lt_or_eq.mp hj with h1 | h1
      · exact hb j y h1 hy
      · subst h1
        rw [hxi] at hy
        cases hy
        cases eb : isBtn x with
        | true => rfl
        | false =>
          rw [eb] at b
          exact absurd rfl b
  rintro σ H2 ⟨x1, x2, rfl, s2, hb⟩
  obtain ⟨l, el, hl2⟩ := ints_of fun x hx => by
    obtain ⟨j, hj⟩ := List.getElem?_of_mem hx
    have hj2 := (List.getElem?_eq_some_iff.mp hj).1
    exact hb j x hj2 hj
  subst el
  rw [List.length_map] at hl c'
  refine ⟨_, rfl, p, _, rfl, .inr ((Fz.of (ex := []) s2).tup hx), 1, (l.length : Int), by rw [List.length_map], ⟨by decide, by decide, by omega, by omega⟩, for_range
    (fun i σ H3 => ∃ x1 x2, σ = [some (.ref p), x1, x2] ∧ Same H H3 ∧ ∀ (j : Nat) (a b : Int), j < i → l[j]? = some a → l[j + 1]? = some b → a < b) ⟨x1, x2, rfl, s2, fun j a b hj => absurd hj (Nat.not_lt_zero _)⟩ ?_ ?_⟩
  · rintro i σ H3 hi ⟨y1, y2, rfl, s3, hP⟩
    have hx3 := (Fz.of (ex := []) s3).tup hx
    have hi1 : i + 1 < l.length := by omega
    have g1 : l[i + 1]? = some l[i + 1] := List.getElem?_eq_getElem hi1
    have g0 : l[i]? = some l[i] := List.getElem?_eq_getElem (by omega)
    refine ⟨_, rfl, _, rfl, p, _, _, _, rfl, rfl, hx3, ?_, _, rfl, _, rfl, _, _, rfl, rfl, p, _, _, _, rfl, rfl, hx3, ?_, l[i + 1], l[i], rfl, rfl, _, rfl, ?_⟩
    · rw [show (1 : Int) + (i : Int) = ((i + 1 : Nat) : Int) by omega]
      refine atI_nat ?_
      rw [List.getElem?_map, g1]
      rfl
    · rw [show (1 : Int) + (i : Int) - 1 = ((i : Nat) : Int) by omega]
      refine atI_nat ?_
      rw [List.getElem?_map, g0]
      rfl
    · refine ite2 (fun c => ?_) (fun c => ?_)
      · have c2 := of_decide_eq_true c
        refine ⟨_, rfl, (by show 2 ≤ sizeLine; decide), fun r nr => ?_⟩
        refine q (.ref r) _ (s3.trans (new_same _ nr)) ⟨fun z => (nomatch z), fun ⟨l', e', _, asc, _⟩ => ?_⟩
        have e2 : l = l' := List.map_inj_right (f := V.int) (fun _ _ h => V.int.inj h) |>.mp e'
        subst e2
        have := List.pairwise_iff_getElem.mp asc i (i + 1) (by omega) hi1 (by omega)
        omega
      · have c2 : ¬ (l[i + 1] ≤ l[i]) := fun z => c (decide_eq_true z)
        refine ⟨some (.int (1 + (i : Int))), y2, rfl, s3, fun j a b hj ha hb => ?_⟩
        rcases Nat.lt_succ_iff_lt_or_eq.mp hj with h1 | h1
        · exact hP j a b h1 ha hb
        · subst h1
          rw [g0] at ha
          rw [g1] at hb
          cases ha
          cases hb
          omega
  · rintro σ H3 ⟨y1, y2, rfl, s3, hP⟩
    refine q .non H3 s3 ⟨fun _ => ⟨l, rfl, hl2, asc_of fun j a b ha hb => ?_, by omega⟩, fun _ => rfl⟩
    have := (List.getElem?_eq_some_iff.mp hb).1
    exact hP j a b (by omega) ha hb

/-! ### is_place -/
def isPl (many : Int) : V → Bool
  | .int i => decide (0 ≤ i) && decide (i < many)
  | _ => false
def sp_ispl (K : PySem.W.Frag) : Sp := fun vs H Q _ => ∃ (v : V) (n : String) (many : Int), vs = [v, .int many] ∧ AnyV K H v n ∧ Q (.bl (isPl many v)) H
theorem law_ispl {K : PySem.W.Frag} {w : World} (vs : List V) (H : Hp) (Q : VK) (E : XK) (h : sp_ispl K vs H Q E) : t_ispl K w { nx := fun _ H' => Q .non H', rt := Q } (start N_ispl vs) H := by
  obtain ⟨v, n, many, rfl, a, q⟩ := h
  refine ⟨v, rfl, v, .ty "int", _, _, _, rfl, .ty "int", a.ty, isi_ans a.kn (by simp), _, rfl, ?_⟩
  by_cases e : n = "int"
  · subst e
    obtain ⟨i, rfl⟩ := a.int_iff.mp rfl
    refine iteT ⟨_, rfl, _, .ty "bool", _, _, _, rfl, .ty "bool", a.ty, isi_ans a.kn (by simp), _, rfl, _, rfl, iteT ⟨_, rfl, 0, i, rfl, rfl, _, rfl, ?_⟩⟩
    refine ite2 (fun c => ?_) (fun c => ?_)
    · refine ⟨_, rfl, i, many, rfl, rfl, ?_⟩
      simpa [isPl, of_decide_eq_true c] using q
    · have c' : decide (0 ≤ i) = false := Bool.eq_false_iff.mpr c
      simpa [isPl, c'] using q
  · have qf : Q (.bl false) H := by
      have e2 : isPl many v = false := by
        cases v with
        | int i => exact absurd (a.int_iff.mpr ⟨i, rfl⟩) e
        | _ => rfl
      rw [e2] at q
      exact q
    by_cases e2 : n = "bool"
    · subst e2
      exact iteT ⟨_, rfl, _, .ty "bool", _, _, _, rfl, .ty "bool", a.ty, isi_ans a.kn (by simp), _, rfl, _, rfl, iteF qf⟩
    · refine ite2 (fun c => ?_) fun _ => qf
      simp [e, e2] at c
end K19

namespace K19
open PySem PySem.Spec PyProof.Rows L2

theorem cnt_bound (m n : List Int) : ∀ (L : List Int) (f : List Int → Int), (∀ s, 0 ≤ f s ∧ f s ≤ 1) → 0 ≤ cnt m n L f ∧ cnt m n L f ≤ 2 ^ L.length
  | [], f, h => by
    have := h []
    simp only [cnt, List.length_nil]
    omega
  | x :: r, f, h => by
    have h1 := cnt_bound m n r f h
    have h2 := cnt_bound m n r (fun s => f (x :: s)) fun s => h _
    simp only [cnt, List.length_cons]
    rw [Int.pow_succ]
    split <;> split <;> omega
theorem ind_bound (b : Bool) : 0 ≤ ind b ∧ ind b ≤ 1 := by cases b <;> decide
theorem sides_bound {m n : List Int} {t : Tr} (w : t.wf) (d : t.leaves.Nodup) (l : t.leaves.length ≤ 60) : (0 ≤ (t.sides m n).1 ∧ (t.sides m n).1 < 2 ^ 64) ∧ (0 ≤ (t.sides m n).2 ∧ (t.sides m n).2 < 2 ^ 64) := by
  have k := sides_ok m n t w d
  have h1 := cnt_bound m n t.leaves (fun s => ind (t.goes s)) fun s => ind_bound _
  have h2 := cnt_bound m n t.leaves (fun s => ind (!t.goes s)) fun s => ind_bound _
  rw [← k.1] at h1
  rw [← k.2] at h2
  have h3 : (2 : Int) ^ t.leaves.length ≤ 2 ^ 60 := by
    have := Nat.pow_le_pow_right (n := 2) (by decide) l
    exact_mod_cast this
  omega
theorem stepT_of (t : List Int) (g f : Int) : stepT t g f = List.zipWith (· + ·) (t.map (· * f) ++ [0]) (0 :: t.map (· * g)) := rfl
theorem tbl_take {m n : List Int} {ps : List Tr} {i : Nat} {t : Tr} (h : ps[i]? = some t) (t0 : List Int) : Tr.tbl m n t0 (ps.take (i + 1)) = stepT (Tr.tbl m n t0 (ps.take i)) (t.sides m n).1 (t.sides m n).2 := by
  induction ps generalizing i t0 with
  | nil => simp at h
  | cons p ps ih =>
    cases i with
    | zero =>
      cases h
      simp [Tr.tbl]
    | succ i =>
      rw [List.take_succ_cons, List.take_succ_cons]
      simp only [Tr.tbl]
      exact ih (by simpa using h) _
theorem tbl_length (m n : List Int) : ∀ (ps : List Tr) (t0 : List Int), (Tr.tbl m n t0 ps).length = t0.length + ps.length
  | [], t0 => by simp [Tr.tbl]
  | p :: ps, t0 => by
    simp only [Tr.tbl]
    rw [tbl_length m n ps, stepT_length, List.length_cons]
    omega
/-- a new list of what te makes of each int, the heap as it was -/
theorem lcmap {K : PySem.W.Frag} {a : Addr} {ns : List Int} {f : Int → Int} {x : Nat} {te : TE} {σ : L2.St} {H : Hp} {D : Addr} {Qd : Hp → Prop} (hs : SqL K H a (ns.map V.int)) (hl : ns.length ≤ 1000) (hw : ∀ v, wipe ((wipe σ [x]).set x v) [x] = wipe σ [x])
    (ht : ∀ (n : Int) (H2 : Hp) (Q2 : VK), n ∈ ns → Q2 (.int (f n)) H2 → te ((wipe σ [x]).set x (some (.int n))) H2 Q2) (nD : H D = none) (q : Qd (upd H D (.lst ((ns.map f).map V.int)))) :
    ∃ W : Nat → Nat → Hp → Prop, (∃ m, W 0 m (upd H D (.lst []))) ∧ ∀ i m H, W i m H →
      ((Itl K a).stop i H ∧ Qd H) ∨ ((Itl K a).go i H ∧ ∃ Nx : Hp → Prop, (∀ H', Nx H' → ∃ m', m' < m ∧ W (i + 1) m' H') ∧ ∀ v H', (Itl K a).yld i H v H' → (gName x) v (wipe σ [x]) H' fun σ2 H2 => wipe σ2 [x] = wipe σ [x] ∧ tYes σ2 H2 fun b H3 =>
        if b = true then te σ2 H3 fun y H4 => ∃ acc, H4 D = some (.lst acc) ∧ acc.length < sizeLine ∧ Nx (upd H4 D (.lst (acc ++ [y]))) else Nx H3) := by
  have ne : ∀ {o : HO}, SqL K (upd H D o) a (ns.map V.int) := fun {o} => (new_same o nD).seq hs
  refine lc_list (K := K) (a := a) (xs := ns.map V.int) (fun i H2 => H2 = upd H D (.lst (((ns.take i).map f).map V.int))) rfl (fun i H2 _ e => by rw [e]; exact ne) ?_ ?_
  · rintro i v H2 hv rfl
    obtain ⟨n, hn, rfl⟩ := ints_get hv
    refine ⟨hw _, ?_⟩
    refine ht n _ _ (List.mem_of_getElem? hn) ⟨_, upd_same, ?_, ?_⟩
    · rw [List.length_map, List.length_map, List.length_take]
      exact small1000 (by omega)
    · rw [upd_upd, take_more hn, List.map_append, List.map_append]
      rfl
  · rintro H2 rfl
    rw [List.length_map, List.take_length]
    exact q

/-! ### going_many, going_numbers -/
def sp_gmany (K : PySem.W.Frag) (n : Nat) : Sp := fun vs H Q _ => ∃ (t : Tr) (v : V) (a b : Addr) (must never : List Int), vs = [v, .ref a, .ref b] ∧ TrAt K H t v ∧ (SqL K H a (must.map V.int) ∨ SqT K H a (must.map V.int)) ∧
  (SqL K H b (never.map V.int) ∨ SqT K H b (never.map V.int)) ∧ t.depth < n ∧ t.wf ∧ t.leaves.Nodup ∧ t.leaves.length ≤ 60 ∧
  ∀ (r : Addr) (H' : Hp), Same H H' → H r = none → H' r = some (.tup [.int (t.sides must never).1, .int (t.sides must never).2]) → Q (.ref r) H'
def sp_gnums (K : PySem.W.Frag) (n : Nat) : Sp := fun vs H Q _ => ∃ (ps : List Tr) (xs : List V) (q a b : Addr) (must never : List Int), vs = [.ref q, .ref a, .ref b] ∧ SqT K H q xs ∧ TrAll K H ps xs ∧ (SqL K H a (must.map V.int) ∨ SqT K H a (must.map V.int)) ∧
  (SqL K H b (never.map V.int) ∨ SqT K H b (never.map V.int)) ∧ Tr.depthAll ps < n ∧ Tr.wfAll ps ∧ (Tr.leavesAll ps).Nodup ∧ (Tr.leavesAll ps).length ≤ 60 ∧
  ∀ (r : Addr) (H' : Hp), Same H H' → H r = none → H' r = some (.lst ((Tr.tbl must never [1] ps).map V.int)) → Q (.ref r) H'
theorem nodup_part {ps : List Tr} {i : Nat} {t : Tr} (h : ps[i]? = some t) (d : (Tr.leavesAll ps).Nodup) : t.leaves.Nodup := by
  obtain ⟨more, e⟩ := leavesAll_split h
  rw [e] at d
  exact (List.nodup_append.mp (List.nodup_append.mp d).2.1).1
theorem law_gnums {K : PySem.W.Frag} {w : World} {n : Nat} (vs : List V) (H : Hp) (Q : VK) (E : XK) (h : sp_gnums K n vs H Q E) : t_gnums K w (sp_gmany K n) { nx := fun _ H' => Q .non H', rt := Q } (start N_gnums vs) H := by
  obtain ⟨ps, xs, q, a, b, must, never, rfl, hx, ht, ha, hb, hn, wf, nd, hl, q0⟩ := h
  have hlen := TrAll.length ps xs ht
  have hparts := parts_le ps wf
  refine ⟨(by show 1 ≤ sizeLine; decide), fun p np => ⟨_, rfl, q, rfl, ⟨xs, (Fz.new (ex := []) np).tup hx⟩, for_tup (K := K) (a := q) (xs := xs)
    (fun i σ H2 => ∃ y r x4 x5 x6 x7 x8, σ = [some (.ref q), some (.ref a), some (.ref b), some (.ref r), x4, x5, x6, x7, x8, none, none, none] ∧ Same H H2 ∧ H r = none ∧ y = Tr.tbl must never [1] (ps.take i) ∧ H2 r = some (.lst (y.map V.int)))
    ⟨_, p, none, none, none, none, none, rfl, new_same _ np, np, rfl, upd_same⟩ (fun i σ H2 _ hP => ?_) ?_ ?_⟩⟩
  · obtain ⟨_, _, _, _, _, _, _, _, s2, _⟩ := hP
    exact (Fz.of (ex := []) s2).tup hx
  · rintro i x σ H2 hi ⟨y, r, x4, x5, x6, x7, x8, rfl, s2, nr, ey, er⟩
    obtain ⟨u, hu, tu⟩ := TrAll.get ps xs i x ht hi
    have hdu := depthAll_get hu
    have hlu := leaves_part hu
    have bd := sides_bound (m := must) (n := never) (wfAll_get wf hu) (nodup_part hu nd) (by omega)
    have hi' := (List.getElem?_eq_some_iff.mp hi).1
    have hy : y.length ≤ 61 := by
      rw [ey, tbl_length, List.length_take]
      simp
      omega
    refine ⟨_, rfl, _, rfl, _, rfl, u, x, a, b, must, never, rfl, TrAt.fz (Fz.of (ex := []) s2) u x tu, seq_same s2 ha, seq_same s2 hb, by omega, wfAll_get wf hu, nodup_part hu nd, by omega, fun g H3 s3 ng eg => ?_⟩
    refine ⟨g, _, rfl, SqT.inj eg, rfl, _, _, rfl, _, _, rfl, rfl, ?_⟩
    have er3 := s3 _ _ er
    refine ⟨_, rfl, r, rfl, ⟨_, SqL.of er3⟩, fun D nD => lcmap (f := (· * (u.sides must never).2)) (SqL.of er3) (by omega) (fun _ => rfl) (fun n H4 Q4 _ q4 => ⟨_, rfl, _, rfl, n, _, rfl, rfl, .inr ⟨by omega, by omega⟩, q4⟩) nD ?_⟩
    have s4 : Same H3 (upd H3 D (.lst ((y.map (· * (u.sides must never).2)).map V.int))) := new_same _ nD
    have eD := upd_same (H := H3) (a := D) (o := .lst ((y.map (· * (u.sides must never).2)).map V.int))
    revert s4 eD
    generalize upd H3 D (.lst ((y.map (· * (u.sides must never).2)).map V.int)) = H4
    intro s4 eD
    refine ⟨(by show 1 ≤ sizeLine; decide), fun z nz => ?_⟩
    have s5 : Same H4 (upd H4 z (.lst [.int 0])) := new_same _ nz
    have ez := upd_same (H := H4) (a := z) (o := .lst [.int 0])
    revert s5 ez
    generalize upd H4 z (.lst [.int 0]) = H5
    intro s5 ez
    refine ⟨D, z, _, _, rfl, rfl, s5 _ _ eD, ez, ?_, fun c nc => ?_⟩
    · simp only [List.length_map, List.length_singleton]
      exact Nat.le_of_lt (small1000 (by omega))
    have s6 : Same H5 (upd H5 c (.lst ((y.map (· * (u.sides must never).2)).map V.int ++ [.int 0]))) := new_same _ nc
    have ec := upd_same (H := H5) (a := c) (o := .lst ((y.map (· * (u.sides must never).2)).map V.int ++ [.int 0]))
    revert s6 ec
    generalize upd H5 c (.lst ((y.map (· * (u.sides must never).2)).map V.int ++ [.int 0])) = H6
    intro s6 ec
    have er6 := s6 _ _ (s5 _ _ (s4 _ _ er3))
    refine ⟨(by show 1 ≤ sizeLine; decide), fun z2 nz2 => ?_⟩
    have s7 : Same H6 (upd H6 z2 (.lst [.int 0])) := new_same _ nz2
    have ez2 := upd_same (H := H6) (a := z2) (o := .lst [.int 0])
    revert s7 ez2
    generalize upd H6 z2 (.lst [.int 0]) = H7
    intro s7 ez2
    have er7 := s7 _ _ er6
    refine ⟨_, rfl, r, rfl, ⟨_, SqL.of er7⟩, fun D2 nD2 => lcmap (f := (· * (u.sides must never).1)) (SqL.of er7) (by omega) (fun _ => rfl) (fun n H4 Q4 _ q4 => ⟨_, rfl, _, rfl, n, _, rfl, rfl, .inr ⟨by omega, by omega⟩, q4⟩) nD2 ?_⟩
    have s8 : Same H7 (upd H7 D2 (.lst ((y.map (· * (u.sides must never).1)).map V.int))) := new_same _ nD2
    have eD2 := upd_same (H := H7) (a := D2) (o := .lst ((y.map (· * (u.sides must never).1)).map V.int))
    revert s8 eD2
    generalize upd H7 D2 (.lst ((y.map (· * (u.sides must never).1)).map V.int)) = H8
    intro s8 eD2
    refine ⟨z2, D2, _, _, rfl, rfl, s8 _ _ ez2, eD2, ?_, fun c2 nc2 => ?_⟩
    · simp only [List.length_map, List.length_singleton]
      exact Nat.le_of_lt (small1000 (by omega))
    have s9 : Same H8 (upd H8 c2 (.lst ([.int 0] ++ (y.map (· * (u.sides must never).1)).map V.int))) := new_same _ nc2
    have ec2 := upd_same (H := H8) (a := c2) (o := .lst ([.int 0] ++ (y.map (· * (u.sides must never).1)).map V.int))
    revert s9 ec2
    generalize upd H8 c2 (.lst ([.int 0] ++ (y.map (· * (u.sides must never).1)).map V.int)) = H9
    intro s9 ec2
    have ec9 : H9 c = some (.lst ((y.map (· * (u.sides must never).2) ++ [0]).map V.int)) := by
      rw [s9 _ _ (s8 _ _ (s7 _ _ ec)), List.map_append]
      rfl
    have s09 : Same H H9 := s2.trans (s3.trans (s4.trans (s5.trans (s6.trans (s7.trans (s8.trans s9))))))
    have ec2' : H9 c2 = some (.lst ((0 :: y.map (· * (u.sides must never).1)).map V.int)) := ec2
    refine ⟨_, rfl, _, rfl, c, c2, _, _, rfl, SqL.of ec9, SqL.of ec2', fun D3 nD3 => lc_zip (xs := (y.map (· * (u.sides must never).2) ++ [0]).map V.int) (ys := (0 :: y.map (· * (u.sides must never).1)).map V.int) (by simp)
      (fun j H2 => Same H H2 ∧ Same H9 H2 ∧ H2 D3 = some (.lst (((stepT y (u.sides must never).1 (u.sides must never).2).take j).map V.int))) ⟨s09.trans (new_same _ nD3), new_same _ nD3, upd_same⟩ (fun j H2 _ hP => ⟨hP.2.1.seq (SqL.of ec9), hP.2.1.seq (SqL.of ec2')⟩) ?_ ?_⟩
    · rintro j v1 v2 T H10 h1 h2 ⟨s10, t10, e10⟩ nT
      obtain ⟨n1, g1, rfl⟩ := ints_get h1
      obtain ⟨n2, g2, rfl⟩ := ints_get h2
      refine ⟨T, _, rfl, SqT.inj upd_same, rfl, _, _, rfl, _, _, rfl, rfl, rfl, ⟨_, rfl, _, rfl, n1, n2, rfl, rfl, ?_⟩⟩
      have g : (stepT y (u.sides must never).1 (u.sides must never).2)[j]? = some (n1 + n2) := by
        rw [stepT_of, List.getElem?_zipWith, g1, g2]
      have nn : T ≠ D3 := fun z => by
        subst z
        rw [e10] at nT
        cases nT
      refine ⟨_, (by rw [upd_ne (Ne.symm nn)]; exact e10), ?_, same_grow (s09.free nD3) (s10.trans (new_same _ nT)), same_grow nD3 (t10.trans (new_same _ nT)), ?_⟩
      · rw [List.length_map, List.length_take, stepT_length]
        exact small1000 (by omega)
      · rw [upd_same, take_more g, List.map_append]
        rfl
    · rintro H10 ⟨s10, t10, e10⟩
      have nD : H D3 = none := s09.free nD3
      refine ⟨_, D3, _, _, _, _, _, rfl, s10, nD, rfl, ?_⟩
      rw [e10, tbl_take hu, ← ey, List.take_of_length_le]
      rw [stepT_length, List.length_map, List.length_append, List.length_map]
      exact Nat.le_refl _
  · rintro σ H2 ⟨y, r, x4, x5, x6, x7, x8, rfl, s2, nr, ey, er⟩
    refine ⟨_, rfl, q0 r H2 s2 nr ?_⟩
    rw [er, ey, hlen, List.take_length]
theorem len_gnums {K : PySem.W.Frag} {n : Nat} : ∀ vs H Q E, sp_gnums K n vs H Q E → vs.length = ["parts", "must", "never"].length := fun vs H Q E h => by
  obtain ⟨ps, xs, q, a, b, must, never, rfl, _⟩ := h
  rfl
theorem if_in {b : Int} {l : List Int} {Q : Int → Prop} (q : Q (if b ∈ l then 0 else 1)) : if decide (b ∈ l) = true then Q 0 else Q 1 := by
  by_cases h : b ∈ l
  · rw [if_pos (decide_eq_true h)]
    rw [if_pos h] at q
    exact q
  · rw [if_neg (by simpa using h)]
    rw [if_neg h] at q
    exact q
theorem law_gmany {K : PySem.W.Frag} {w : World} {n : Nat} (vs : List V) (H : Hp) (Q : VK) (E : XK) (h : sp_gmany K (n + 1) vs H Q E) : t_gmany K w (sp_gnums K n) { nx := fun _ H' => Q .non H', rt := Q } (start N_gmany vs) H := by
  obtain ⟨t, v, a, b, must, never, rfl, ht, ha, hb, hn, wf, nd, hl, q0⟩ := h
  refine ⟨v, rfl, v, .ty "int", _, _, _, rfl, .ty "int", ht.any.ty, isi_ans ht.any.kn (by simp), ?_⟩
  cases t with
  | leaf x =>
    have ev : v = .int x := by simpa only [TrAt] using ht
    subst ev
    refine ⟨_, rfl, iteT ?_⟩
    have fin : ∀ k l : Int, k = (if x ∈ never then 0 else 1) → l = (if x ∈ must then 0 else 1) → [V.int k, V.int l].length ≤ sizeLine ∧ ∀ p, H p = none → Q (.ref p) (upd H p (.tup [.int k, .int l])) := by
      rintro k l rfl rfl
      exact ⟨(by show 2 ≤ sizeLine; decide), fun p np => q0 p _ (new_same _ np) np (by rw [upd_same]; simp only [Tr.sides])⟩
    refine ⟨_, rfl, _, rfl, b, _, rfl, hb, rfl, flat_ints never, _, rfl, ?_⟩
    have i1 := inV_ints x never
    have i2 := inV_ints x must
    by_cases h1 : x ∈ never <;> by_cases h2 : x ∈ must
    all_goals
      simp only [h1, h2, decide_true, decide_false] at i1 i2
      rw [i1]
      simp only [if_true, if_false, Bool.false_eq_true]
      refine ⟨_, rfl, _, rfl, a, _, rfl, ha, rfl, flat_ints must, _, rfl, ?_⟩
      rw [i2]
      simp only [if_true, if_false, Bool.false_eq_true]
      exact fin _ _ (by simp [h1]) (by simp [h2])
  | node k ps =>
    refine ⟨_, rfl, iteF ?_⟩
    simp only [TrAt] at ht
    simp only [Tr.leaves] at hl nd
    simp only [Tr.depth] at hn
    simp only [Tr.wf] at wf
    obtain ⟨av, pq, xs, rfl, h1, h2, h3⟩ := ht
    refine ⟨_, rfl, av, _, rfl, h1, rfl, _, _, rfl, _, _, rfl, rfl, _, rfl, _, rfl, _, rfl, ps, xs, pq, a, b, must, never, rfl, h2, h3, ha, hb, by omega, wf.2.2, nd, hl, fun r H1 s1 nr er => ?_⟩
    have hk : 0 ≤ k := by omega
    refine ⟨_, rfl, _, rfl, k, rfl, r, _, rfl, SqL.of er, fun D nD => ?_⟩
    have s2 : Same H1 (upd H1 D (.lst (cutV ((Tr.tbl must never [1] ps).map V.int) (some k) none))) := new_same _ nD
    have eD := upd_same (H := H1) (a := D) (o := .lst (cutV ((Tr.tbl must never [1] ps).map V.int) (some k) none))
    revert s2 eD
    generalize upd H1 D (.lst (cutV ((Tr.tbl must never [1] ps).map V.int) (some k) none)) = H2
    intro s2 eD
    rw [cut_from hk, ← List.map_drop] at eD
    refine ⟨D, _, rfl, SqL.of eD, _, rfl, _, rfl, k, rfl, r, _, rfl, SqL.of (s2 _ _ er), fun D2 nD2 => ?_⟩
    have s3 : Same H2 (upd H2 D2 (.lst (cutV ((Tr.tbl must never [1] ps).map V.int) none (some k)))) := new_same _ nD2
    have eD2 := upd_same (H := H2) (a := D2) (o := .lst (cutV ((Tr.tbl must never [1] ps).map V.int) none (some k)))
    revert s3 eD2
    generalize upd H2 D2 (.lst (cutV ((Tr.tbl must never [1] ps).map V.int) none (some k))) = H3
    intro s3 eD2
    rw [cut_to hk, ← List.map_take] at eD2
    refine ⟨D2, _, rfl, SqL.of eD2, (by show 2 ≤ sizeLine; decide), fun p np => ?_⟩
    have s03 := s1.trans (s2.trans s3)
    exact q0 p _ (s03.trans (new_same _ np)) (s03.free np) (by rw [upd_same]; simp only [Tr.sides])
theorem len_gmany {K : PySem.W.Frag} {n : Nat} : ∀ vs H Q E, sp_gmany K n vs H Q E → vs.length = ["tree", "must", "never"].length := fun vs H Q E h => by
  obtain ⟨t, v, a, b, must, never, rfl, _⟩ := h
  rfl
end K19

namespace K19
open PySem PySem.Spec PyProof.Rows L2

/-! ### == of lists and tuples of ints -/
theorem dp_ints {K : PySem.W.Frag} {H : Hp} : ∀ ns : List Int, DpAll K H (ns.map V.int) (ns.map PyData.int)
  | [] => .nil
  | n :: ns => .cons (.int n) (dp_ints ns)
theorem lay_ints : ∀ ns : List Int, PyData.canLayAll0 (ns.map PyData.int) = true
  | [] => by simp [PyData.canLayAll0]
  | n :: ns => by
    rw [List.map_cons]
    simp only [PyData.canLayAll0, lay_ints ns, Bool.and_true]
    simp [PyData.canLay0]
theorem shaped_li (ns : List Int) : SeqAt.shaped (.list (ns.map PyData.int)) = true := by
  unfold SeqAt.shaped
  simp only [PyData.canLay0, lay_ints ns, Bool.true_and, PyData.depth, PySem.W.depth_ints]
  rfl
theorem shaped_ti (ns : List Int) : SeqAt.shaped (.tuple (ns.map PyData.int)) = true := by
  unfold SeqAt.shaped
  simp only [PyData.canLay0, lay_ints ns, Bool.true_and, PyData.depth, PySem.W.depth_ints]
  rfl
theorem eqv_ints : ∀ ns ms : List Int, PyData.eqvAll (ns.map PyData.int) (ms.map PyData.int) = decide (ns = ms)
  | [], [] => by simp [PyData.eqvAll]
  | [], m :: ms => by simp [PyData.eqvAll]
  | n :: ns, [] => by simp [PyData.eqvAll]
  | n :: ns, m :: ms => by
    rw [List.map_cons, List.map_cons]
    simp only [PyData.eqvAll, eqv_ints ns ms, PyData.eqv, List.cons.injEq, Bool.decide_and]
    by_cases h : n = m <;> simp [h]
theorem eqv_li (ns ms : List Int) : PyData.eqv (.list (ns.map PyData.int)) (.list (ms.map PyData.int)) = decide (ns = ms) := by
  simp only [PyData.eqv]
  exact eqv_ints ns ms
theorem eqv_ti (ns ms : List Int) : PyData.eqv (.tuple (ns.map PyData.int)) (.tuple (ms.map PyData.int)) = decide (ns = ms) := by
  simp only [PyData.eqv]
  exact eqv_ints ns ms
theorem ne_nil {K : PySem.W.Frag} {H : Hp} {a z : Addr} {ns : List Int} {Q : VK} (ha : H a = some (.lst (ns.map V.int))) (hz : H z = some (.lst [])) (q : Q (.bl (decide (ns ≠ []))) H) : rNeD K (.ref a) (.ref z) H Q := by
  refine ⟨_, .list (([] : List Int).map PyData.int), .lst (SqL.of ha) (dp_ints ns), .lst (SqL.of hz) (dp_ints []), shaped_li ns, shaped_li [], ?_⟩
  rw [eqv_li]
  simpa using q
theorem eq_nil {K : PySem.W.Frag} {H : Hp} {a z : Addr} {ns : List Int} {Q : VK} (ha : H a = some (.lst (ns.map V.int))) (hz : H z = some (.lst [])) (q : Q (.bl (decide (ns = []))) H) : rEqD K (.ref a) (.ref z) H Q := by
  refine ⟨_, .list (([] : List Int).map PyData.int), .lst (SqL.of ha) (dp_ints ns), .lst (SqL.of hz) (dp_ints []), shaped_li ns, shaped_li [], ?_⟩
  rw [eqv_li]
  exact q
/-- a new list of the items for which tt, the heap grown alone -/
theorem lcfil {J : It} {xs : List V} {G : Hp → Prop} {tt : TT} {te : TE} {x : Nat} {σ : L2.St} {H : Hp} {D : Addr} {Qd : Hp → Prop} (w : Walk J xs.length G (YAt xs)) (hG : ∀ H', Same H H' → G H') (hl : xs.length ≤ 1000000) (hw : ∀ v, wipe ((wipe σ [x]).set x v) [x] = wipe σ [x])
    (p : V → Bool) (g : V → V) (ht : ∀ (v : V) (H2 : Hp) (Q2 : Bool → Hp → Prop), v ∈ xs → Same H H2 → (∀ H3, Same H2 H3 → Q2 (p v) H3) → tt ((wipe σ [x]).set x (some v)) H2 Q2)
    (he : ∀ (v : V) (H2 : Hp) (Q2 : VK), v ∈ xs → Same H H2 → p v = true → Q2 (g v) H2 → te ((wipe σ [x]).set x (some v)) H2 Q2) (nD : H D = none) (q : ∀ H', Same H H' → H' D = some (.lst ((xs.filter p).map g)) → Qd H') :
    ∃ W : Nat → Nat → Hp → Prop, (∃ m, W 0 m (upd H D (.lst []))) ∧ ∀ i m H, W i m H →
      (J.stop i H ∧ Qd H) ∨ (J.go i H ∧ ∃ Nx : Hp → Prop, (∀ H', Nx H' → ∃ m', m' < m ∧ W (i + 1) m' H') ∧ ∀ v H', J.yld i H v H' → (gName x) v (wipe σ [x]) H' fun σ2 H2 => wipe σ2 [x] = wipe σ [x] ∧ tt σ2 H2 fun b H3 =>
        if b = true then te σ2 H3 fun y H4 => ∃ acc, H4 D = some (.lst acc) ∧ acc.length < sizeLine ∧ Nx (upd H4 D (.lst (acc ++ [y]))) else Nx H3) := by
  refine lc_it w (fun i H2 => Same H H2 ∧ H2 D = some (.lst (((xs.take i).filter p).map g))) ⟨new_same _ nD, upd_same⟩ (fun i H2 _ hP => hG H2 hP.1) ?_ ?_
  · rintro i v H2 _ hi ⟨s2, e2⟩ ⟨rfl, hv⟩
    have hm := List.mem_of_getElem? hv
    refine ⟨hw _, ht v _ _ hm s2 fun H3 s3 => ?_⟩
    have s23 := s2.trans s3
    refine ite2 (fun c => ?_) (fun c => ?_)
    · refine he v _ _ hm s23 c ⟨_, s3 _ _ e2, ?_, same_grow nD s23, ?_⟩
      · rw [List.length_map]
        have h1 := List.length_filter_le p (xs.take i)
        rw [List.length_take] at h1
        exact Nat.lt_of_le_of_lt (by omega : _ ≤ 1000000) (by decide)
      · rw [upd_same, take_more hv, List.filter_append, List.map_append, List.filter_cons_of_pos c]
        rfl
    · refine ⟨s23, ?_⟩
      rw [s3 _ _ e2, take_more hv, List.filter_append, List.filter_cons_of_neg c]
      simp
  · rintro H2 ⟨s2, e2⟩
    rw [List.take_length] at e2
    exact q H2 s2 e2
theorem filter_ints (p : V → Bool) (ns : List Int) : (ns.map V.int).filter p = (ns.filter fun n => p (.int n)).map V.int := by
  rw [List.filter_map]
  rfl

/-! ### going_count -/
/-- a tree on its row of buttons -/
structure TreeOk (t : Tr) (row : List Int) : Prop where
  wf : t.wf
  perm : t.leaves.Perm row
  asc : row.Pairwise (· < ·)
  few : row.length ≤ 60
  deep : t.depth < 8
theorem TreeOk.nodup {t : Tr} {row : List Int} (h : TreeOk t row) : row.Nodup := nodup_of h.asc
theorem TreeOk.leaves {t : Tr} {row : List Int} (h : TreeOk t row) : t.leaves.Nodup := h.perm.nodup_iff.mpr h.nodup
theorem TreeOk.len {t : Tr} {row : List Int} (h : TreeOk t row) : t.leaves.length ≤ 60 := by
  rw [h.perm.length_eq]
  exact h.few
/-- how many lots go -/
def cntG (t : Tr) (row must never : List Int) : Int := if ∀ x ∈ must, x ∈ row then (t.sides must never).1 else 0
def sp_gcount (K : PySem.W.Frag) : Sp := fun vs H Q _ => ∃ (t : Tr) (row : List Int) (v : V) (a b : Addr) (must never : List Int), vs = [v, .ref a, .ref b] ∧ TrAt K H t v ∧ TreeOk t row ∧ SqT K H a (must.map V.int) ∧ must.length ≤ 1000 ∧ SqT K H b (never.map V.int) ∧
  ∀ H' : Hp, Same H H' → Q (.int (cntG t row must never)) H'
theorem law_gcount {K : PySem.W.Frag} {w : World} (vs : List V) (H : Hp) (Q : VK) (E : XK) (h : sp_gcount K vs H Q E) : t_gcount K w (sp_bof K 8) (sp_gmany K 8) { nx := fun _ H' => Q .non H', rt := Q } (start N_gcount vs) H := by
  obtain ⟨t, row, v, a, b, must, never, rfl, ht, ok, ha, hm, hb, q⟩ := h
  refine ⟨v, rfl, t, v, row, rfl, ht, ok.deep, by have := ok.len; omega, ok.perm, ok.asc, fun r H1 s1 er => ?_⟩
  have ha1 := (Fz.of (ex := []) s1).tup ha
  refine ⟨_, rfl, a, rfl, ⟨_, ha1⟩, fun D nD => lcfil (walk_tup (K := K) (a := a) (xs := must.map V.int)) (fun H2 s2 => (Fz.of (ex := []) s2).tup ha1) (by rw [List.length_map]; omega) (fun _ => rfl)
    (fun v => match v with | .int n => !decide (n ∈ row) | _ => false) (fun v => v) (fun v H2 Q2 hv s2 q2 => ?_) (fun v H2 Q2 _ _ _ q2 => ⟨v, rfl, q2⟩) nD fun H2 s2 eD => ?_⟩
  · obtain ⟨n, _, rfl⟩ := List.mem_map.mp hv
    refine ⟨_, rfl, .ref r, rfl, r, row.map V.int, rfl, .inr (SqT.inj (s2 _ _ er)), rfl, flat_ints row, _, rfl, ?_⟩
    rw [if_pos rfl, inV_ints]
    exact q2 H2 (Same.refl H2)
  · rw [List.map_id', filter_ints] at eD
    refine ⟨(by show 0 ≤ sizeLine; decide), fun z nz => ?_⟩
    have s3 : Same H2 (upd H2 z (.lst [])) := new_same _ nz
    have sh := s1.trans (s2.trans s3)
    refine ne_nil (s3 _ _ eD) upd_same ⟨_, rfl, ?_⟩
    by_cases c : ∀ x ∈ must, x ∈ row
    · have e : must.filter (fun n => !decide (n ∈ row)) = [] := by
        rw [List.filter_eq_nil_iff]
        intro x hx
        simp [c x hx]
      rw [e]
      refine iteF ?_
      refine ⟨_, rfl, _, rfl, _, rfl, t, v, a, b, must, never, rfl, TrAt.fz (Fz.of (ex := []) sh) t v ht, .inr ((Fz.of (ex := []) sh).tup ha), .inr ((Fz.of (ex := []) sh).tup hb), ok.deep, ok.wf, ok.leaves, ok.len, fun g H4 s4 ng eg => ?_⟩
      refine ⟨g, _, 0, _, rfl, rfl, SqT.inj eg, rfl, ?_⟩
      have := q H4 (sh.trans s4)
      unfold cntG at this
      rw [if_pos c] at this
      exact this
    · have e : must.filter (fun n => !decide (n ∈ row)) ≠ [] := by
        intro e
        rw [List.filter_eq_nil_iff] at e
        refine c fun x hx => ?_
        have := e x hx
        simpa using this
      have d : decide (must.filter (fun n => !decide (n ∈ row)) ≠ []) = true := decide_eq_true e
      rw [d]
      refine iteT ?_
      have := q _ sh
      unfold cntG at this
      rw [if_neg c] at this
      exact this
theorem len_gcount {K : PySem.W.Frag} : ∀ vs H Q E, sp_gcount K vs H Q E → vs.length = ["tree", "must", "never"].length := fun vs H Q E h => by
  obtain ⟨t, row, v, a, b, must, never, rfl, _⟩ := h
  rfl
end K19

namespace K19
open PySem PySem.Spec PyProof.Rows L2

/-! ### _law_held -/
def sp_lheld (K : PySem.W.Frag) (n : Nat) : Sp := fun vs H Q _ => ∃ (t : Tr) (v : V), vs = [v] ∧ TrAt K H t v ∧ t.depth < n ∧ t.leaves.length ≤ 1000 ∧
  ∀ (r : Addr) (H' : Hp), Same H H' → H r = none → H' r = some (.lst (t.leaves.map V.int)) → Q (.ref r) H'
theorem law_lheld {K : PySem.W.Frag} {w : World} {n : Nat} (vs : List V) (H : Hp) (Q : VK) (E : XK) (h : sp_lheld K (n + 1) vs H Q E) : t_lheld K w (sp_lheld K n) { nx := fun _ H' => Q .non H', rt := Q } (start N_lheld vs) H := by
  obtain ⟨t, v, rfl, ht, hn, hl, q⟩ := h
  refine ⟨v, rfl, v, .ty "int", _, _, _, rfl, .ty "int", ht.any.ty, isi_ans ht.any.kn (by simp), ?_⟩
  cases t with
  | leaf b =>
    have ev : v = .int b := by simpa only [TrAt] using ht
    subst ev
    refine ⟨_, rfl, iteT ⟨_, rfl, (by show 1 ≤ sizeLine; decide), fun p np => ?_⟩⟩
    exact q p _ (new_same _ np) np upd_same
  | node k ps =>
    refine ⟨_, rfl, iteF ?_⟩
    simp only [TrAt] at ht
    simp only [Tr.leaves] at q hl
    simp only [Tr.depth] at hn
    obtain ⟨a, pq, xs, rfl, h1, h2, h3⟩ := ht
    refine ⟨(by show 0 ≤ sizeLine; decide), fun o no => ?_⟩
    have f0 : Fz [] H (upd H o (.lst [])) := Fz.new no
    refine ⟨_, rfl, a, _, _, _, rfl, rfl, f0.tup h1, at1, pq, rfl, ⟨xs, f0.tup h2⟩, for_tup (K := K) (a := pq) (xs := xs)
      (fun i σ H2 => ∃ r x2, σ = [some (.ref a), some (.ref r), x2] ∧ Same H H2 ∧ H r = none ∧ H2 r = some (.lst ((Tr.leavesAll (ps.take i)).map V.int))) ⟨o, none, rfl, new_same _ no, no, upd_same⟩ (fun i σ H2 _ hP => ?_) ?_ ?_⟩
    · obtain ⟨_, _, _, s2, _⟩ := hP
      exact (Fz.of (ex := []) s2).tup h2
    · rintro i x σ H2 hx ⟨r, x2, rfl, s2, nr, er⟩
      obtain ⟨u, hu, tu⟩ := TrAll.get ps xs i x h3 hx
      have tu2 := TrAt.fz (Fz.of (ex := []) s2) u x tu
      obtain ⟨more, em⟩ := leavesAll_split hu
      have hdu := depthAll_get hu
      have hlu : (Tr.leavesAll (ps.take i)).length + u.leaves.length ≤ 1000 := by
        rw [em] at hl
        simp only [List.length_append] at hl
        omega
      refine ⟨_, rfl, _, rfl, u, x, rfl, tu2, by omega, by omega, fun g H3 s3 ng eg => ?_⟩
      refine ⟨r, g, _, _, rfl, rfl, s3 _ _ er, eg, ?_, fun c nc => ?_⟩
      · rw [List.length_map, List.length_map]
        exact Nat.le_of_lt (small1000 hlu)
      · have s23 := s2.trans s3
        refine ⟨c, some x, rfl, s23.trans (new_same _ nc), s23.free nc, ?_⟩
        rw [upd_same, leavesAll_take hu, List.map_append]
    · rintro σ H2 ⟨r, x2, rfl, s2, nr, er⟩
      refine ⟨_, rfl, q r H2 s2 nr ?_⟩
      rw [er, TrAll.length ps xs h3, List.take_length]
theorem len_lheld {K : PySem.W.Frag} {n : Nat} : ∀ vs H Q E, sp_lheld K n vs H Q E → vs.length = ["_law_tree_here"].length := fun vs H Q E h => by
  obtain ⟨t, v, rfl, _⟩ := h
  rfl

/-! ### _law_goes -/
theorem law_lgoes {K : PySem.W.Frag} {w : World} {n : Nat} (vs : List V) (H : Hp) (Q : VK) (E : XK) (h : sp_goes K (n + 1) vs H Q E) : t_lgoes K w (sp_goes K n) { nx := fun _ H' => Q .non H', rt := Q } (start N_lgoes vs) H := by
  obtain ⟨t, v, a, l, rfl, ht, hs, hn, wf, hl, q⟩ := h
  refine ⟨v, rfl, v, .ty "int", _, _, _, rfl, .ty "int", ht.any.ty, isi_ans ht.any.kn (by simp), ?_⟩
  cases t with
  | leaf b =>
    have ev : v = .int b := by simpa only [TrAt] using ht
    subst ev
    refine ⟨_, rfl, iteT ⟨_, rfl, _, rfl, a, _, rfl, hs, rfl, flat_ints l, ?_⟩⟩
    rw [if_neg Bool.false_ne_true, inV_ints]
    exact q H (Same.refl H)
  | node k ps =>
    refine ⟨_, rfl, iteF ?_⟩
    simp only [TrAt] at ht
    simp only [Tr.leaves] at hl
    simp only [Tr.depth] at hn
    simp only [Tr.wf] at wf
    obtain ⟨av, pq, xs, rfl, h1, h2, h3⟩ := ht
    have hlen := TrAll.length ps xs h3
    have hparts := parts_le ps wf.2.2
    refine ⟨_, rfl, av, _, _, _, rfl, rfl, h1, at1, pq, rfl, ⟨xs, h2⟩, fun D nD => lc_tup (K := K) (a := pq) (xs := xs)
      (fun i H2 => Same H H2 ∧ H2 D = some (.lst (List.replicate (Tr.ngoes l (ps.take i)) (V.int 1)))) ⟨new_same _ nD, upd_same⟩ (fun i H2 _ hP => (Fz.of (ex := []) hP.1).tup h2) ?_ ?_⟩
    · rintro i x H2 hx ⟨s2, eD⟩
      obtain ⟨u, hu, tu⟩ := TrAll.get ps xs i x h3 hx
      have hdu := depthAll_get hu
      have hlu := leaves_part hu
      refine ⟨rfl, _, rfl, _, rfl, u, x, a, l, rfl, TrAt.fz (Fz.of (ex := []) s2) u x tu, seq_same s2 hs, by omega, wfAll_get wf.2.2 hu, by omega, fun H3 s3 => ⟨_, rfl, ?_⟩⟩
      have s23 := s2.trans s3
      refine ite2 (fun c => ?_) (fun c => ?_)
      · refine ⟨_, s3 _ _ eD, ?_, same_grow nD s23, ?_⟩
        · rw [List.length_replicate]
          have := ngoes_le l (ps.take i)
          rw [List.length_take] at this
          exact small1000 (by omega)
        · rw [upd_same, ngoes_take hu, if_pos c, List.replicate_succ']
      · refine ⟨s23, ?_⟩
        rw [ngoes_take hu, if_neg c]
        exact s3 _ _ eD
    · rintro H2 ⟨s2, eD⟩
      refine ⟨D, _, rfl, .inl (SqL.of eD), _, rfl, av, _, _, _, rfl, rfl, (Fz.of (ex := []) s2).tup h1, at0, _, _, rfl, rfl, ?_⟩
      rw [List.length_replicate, hlen, List.take_length]
      exact q H2 s2
theorem len_lgoes {K : PySem.W.Frag} {n : Nat} : ∀ vs H Q E, sp_goes K n vs H Q E → vs.length = ["_law_tree_here", "_law_some"].length := fun vs H Q E h => by
  obtain ⟨t, v, a, l, rfl, _⟩ := h
  rfl

/-! ### _law_sides -/
def ent (y : List Int) (g f : Int) (j i : Nat) : Int := (if i < j then y.getD i 0 * f else 0) + (if 1 ≤ i ∧ i - 1 < j then y.getD (i - 1) 0 * g else 0)
theorem stepT_ent (y : List Int) (g f : Int) (i : Nat) (h : i ≤ y.length) : (stepT y g f)[i]? = some (ent y g f y.length i) := by
  rw [stepT_of, List.getElem?_zipWith]
  have e1 : (y.map (· * f) ++ [0])[i]? = some (if i < y.length then y.getD i 0 * f else 0) := by
    by_cases hi : i < y.length
    · rw [List.getElem?_append_left (by rw [List.length_map]; exact hi), List.getElem?_map, List.getElem?_eq_getElem hi, if_pos hi, List.getD_eq_getElem?_getD, List.getElem?_eq_getElem hi]
      rfl
    · have e : i = y.length := by omega
      subst e
      rw [List.getElem?_append_right (by rw [List.length_map]; exact Nat.le_refl _), List.length_map, Nat.sub_self, if_neg hi]
      rfl
  have e2 : ((0 :: y.map (· * g)) : List Int)[i]? = some (if 1 ≤ i ∧ i - 1 < y.length then y.getD (i - 1) 0 * g else 0) := by
    cases i with
    | zero => rfl
    | succ i =>
      rw [List.getElem?_cons_succ, List.getElem?_map, List.getElem?_eq_getElem (by omega), if_pos (by omega), Nat.add_sub_cancel, List.getD_eq_getElem?_getD, List.getElem?_eq_getElem (by omega)]
      rfl
  rw [e1, e2]
  rfl
theorem ixN_at {n j : Nat} (h : j < n) : ixN n ((j : Nat) : Int) = some j := by
  unfold ixN
  rw [if_pos (by omega), if_pos (by omega), Int.toNat_natCast]
theorem rep_zero (n : Nat) : (List.replicate n ([V.int 0] : List V)).flatten = (List.replicate n (0 : Int)).map V.int := by
  induction n with
  | zero => rfl
  | succ n ih =>
    rw [List.replicate_succ, List.flatten_cons, ih]
    rfl
set_option maxHeartbeats 16000000 in
theorem law_lsides {K : PySem.W.Frag} {w : World} {n : Nat} (vs : List V) (H : Hp) (Q : VK) (E : XK) (h : sp_gmany K (n + 1) vs H Q E) : t_lsides K w (sp_gmany K n) { nx := fun _ H' => Q .non H', rt := Q } (start N_lsides vs) H := by
  obtain ⟨t, v, a, b, must, never, rfl, ht, ha, hb, hn, wf, nd, hl, q0⟩ := h
  refine ⟨v, rfl, v, .ty "int", _, _, _, rfl, .ty "int", ht.any.ty, isi_ans ht.any.kn (by simp), ?_⟩
  cases t with
  | leaf x =>
    have ev : v = .int x := by simpa only [TrAt] using ht
    subst ev
    refine ⟨_, rfl, iteT ?_⟩
    refine ⟨_, rfl, _, rfl, b, _, rfl, hb, rfl, flat_ints never, .inr ⟨_, rfl, ?_⟩⟩
    refine ⟨_, rfl, _, rfl, a, _, rfl, ha, rfl, flat_ints must, .inr ⟨_, rfl, ?_⟩⟩
    refine ⟨(by show 2 ≤ sizeLine; decide), fun p np => q0 p _ (new_same _ np) np ?_⟩
    rw [upd_same, if_pos rfl, if_pos rfl, inV_ints, inV_ints]
    simp only [Tr.sides]
    by_cases h1 : x ∈ never <;> by_cases h2 : x ∈ must <;> simp [h1, h2]
  | node k ps =>
    refine ⟨_, rfl, iteF ?_⟩
    simp only [TrAt] at ht
    simp only [Tr.leaves] at hl nd
    simp only [Tr.depth] at hn
    simp only [Tr.wf] at wf
    obtain ⟨av, pq, xs, rfl, h1, h2, h3⟩ := ht
    have hk : 0 ≤ k := by omega
    have hlen := TrAll.length ps xs h3
    have hparts := parts_le ps wf.2.2
    refine ⟨(by show 1 ≤ sizeLine; decide), fun p np => ?_⟩
    have f0 : Fz [] H (upd H p (.lst [.int 1])) := Fz.new np
    refine ⟨_, rfl, av, _, _, _, rfl, rfl, f0.tup h1, at1, pq, rfl, ⟨xs, f0.tup h2⟩, for_tup (K := K) (a := pq) (xs := xs)
      (fun i σ H2 => ∃ y r x4 x5 x6 x7 x8 x9, σ = [some (.ref av), some (.ref a), some (.ref b), some (.ref r), x4, x5, x6, x7, x8, x9] ∧ Same H H2 ∧ H r = none ∧ y = Tr.tbl must never [1] (ps.take i) ∧ H2 r = some (.lst (y.map V.int)))
      ⟨_, p, none, none, none, none, none, none, rfl, new_same _ np, np, rfl, upd_same⟩ (fun i σ H2 _ hP => ?_) ?_ ?_⟩
    · obtain ⟨_, _, _, _, _, _, _, _, _, s2, _⟩ := hP
      exact (Fz.of (ex := []) s2).tup h2
    · rintro i x σ H2 hi ⟨y, r, x4, x5, x6, x7, x8, x9, rfl, s2, nr, ey, er⟩
      obtain ⟨u, hu, tu⟩ := TrAll.get ps xs i x h3 hi
      have hdu := depthAll_get hu
      have hlu := leaves_part hu
      have bd := sides_bound (m := must) (n := never) (wfAll_get wf.2.2 hu) (nodup_part hu nd) (by omega)
      have hi' := (List.getElem?_eq_some_iff.mp hi).1
      have hy : y.length ≤ 61 := by
        rw [ey, tbl_length, List.length_take]
        simp
        omega
      refine ⟨_, rfl, _, rfl, _, rfl, u, x, a, b, must, never, rfl, TrAt.fz (Fz.of (ex := []) s2) u x tu, seq_same s2 ha, seq_same s2 hb, by omega, wfAll_get wf.2.2 hu, nodup_part hu nd, by omega, fun g H3 s3 ng eg => ?_⟩
      have s03 := s2.trans s3
      refine ⟨g, _, rfl, SqT.inj eg, rfl, _, _, rfl, _, _, rfl, rfl, ?_⟩
      refine ⟨(by show 1 ≤ sizeLine; decide), fun z nz => ?_⟩
      have s4 : Same H3 (upd H3 z (.lst [.int 0])) := new_same _ nz
      have ez := upd_same (H := H3) (a := z) (o := .lst [.int 0])
      revert s4 ez
      generalize upd H3 z (.lst [.int 0]) = H4
      intro s4 ez
      have er4 := s4 _ _ (s3 _ _ er)
      refine ⟨_, rfl, r, _, rfl, .inl (SqL.of er4), (y.map V.int).length, 1, rfl, rfl, ?_⟩
      rw [List.length_map]
      refine ⟨z, _, _, rfl, rfl, ez, by omega, by omega, ?_, fun c nc => ?_⟩
      · show 1 * ((y.length : Int) + 1).toNat ≤ sizeLine
        refine Nat.le_of_lt (small1000 ?_)
        omega
      have ec0 : List.replicate ((y.length : Int) + 1).toNat [V.int 0] = List.replicate (y.length + 1) [V.int 0] := by
        congr 1
      rw [ec0, rep_zero]
      have s5 : Same H4 (upd H4 c (.lst ((List.replicate (y.length + 1) (0 : Int)).map V.int))) := new_same _ nc
      have s05 := s03.trans (s4.trans s5)
      have n0 : H c = none := (s03.trans s4).free nc
      have er5 := s5 _ _ er4
      have ec := upd_same (H := H4) (a := c) (o := .lst ((List.replicate (y.length + 1) (0 : Int)).map V.int))
      have hrc : r ≠ c := fun z => by
        subst z
        rw [er4] at nc
        cases nc
      revert s05 er5 ec
      generalize upd H4 c (.lst ((List.replicate (y.length + 1) (0 : Int)).map V.int)) = H5
      intro s05 er5 ec
      refine ⟨_, rfl, r, _, rfl, SqL.of er5, for_enum (K := K) (a := r) (xs := y.map V.int)
        (fun j σ H2 => ∃ (L : List Int) (x8 x9 : Option V), σ = [some (.ref av), some (.ref a), some (.ref b), some (.ref r), some x, some (.int (u.sides must never).1), some (.int (u.sides must never).2), some (.ref c), x8, x9] ∧ Same H H2 ∧ H2 r = some (.lst (y.map V.int)) ∧
          H2 c = some (.lst (L.map V.int)) ∧ L.length = y.length + 1 ∧ ∀ i, i ≤ y.length → L[i]? = some (ent y (u.sides must never).1 (u.sides must never).2 j i))
        ⟨_, x8, x9, rfl, s05, er5, ec, List.length_replicate, fun i hi => ?_⟩ (fun j σ H2 _ hP => ?_) ?_ ?_⟩
      · rw [List.getElem?_replicate, if_pos (by omega)]
        unfold ent
        rw [if_neg (by omega), if_neg (by omega)]
        rfl
      · obtain ⟨_, _, _, _, _, e, _⟩ := hP
        exact SqL.of e
      · rintro j v T σ H6 hj ⟨L, x8, x9, rfl, s6, er6, ec6, lL, hL⟩ nT
        obtain ⟨m, hm, rfl⟩ := ints_get hj
        have hj' := (List.getElem?_eq_some_iff.mp hm).1
        have ym : y.getD j 0 = m := by rw [List.getD_eq_getElem?_getD, hm]; rfl
        have cT : c ≠ T := ne_of_none ec6 nT
        have rT : r ≠ T := ne_of_none er6 nT
        have ec7 : (upd H6 T (.tup [.int (j : Nat), .int m])) c = some (.lst (L.map V.int)) := by rw [upd_ne cT]; exact ec6
        have er7 : (upd H6 T (.tup [.int (j : Nat), .int m])) r = some (.lst (y.map V.int)) := by rw [upd_ne rT]; exact er6
        have s7 := s6.trans (new_same (.tup [.int (j : Nat), .int m]) nT)
        have l1 := hL j (by omega)
        have l2 := hL (j + 1) (by omega)
        refine ⟨T, _, rfl, SqT.inj upd_same, rfl, _, _, rfl, _, _, rfl, rfl, ?_⟩
        revert ec7 er7 s7
        generalize upd H6 T (.tup [.int (j : Nat), .int m]) = H7
        intro ec7 er7 s7
        refine ⟨_, rfl, _, rfl, c, _, _, _, rfl, rfl, SqL.of ec7, atI_nat (by rw [List.getElem?_map, l1]; rfl), _, rfl, _, rfl, m, _, rfl, rfl, .inr ⟨by omega, by omega⟩, _, _, rfl, rfl, ?_⟩
        refine ⟨_, rfl, _, rfl, c, _, _, j, rfl, rfl, ec7, ixN_at (by rw [List.length_map]; omega), ?_⟩
        rw [← List.map_set]
        have ec8 := upd_same (H := H7) (a := c) (o := .lst ((L.set j (ent y (u.sides must never).1 (u.sides must never).2 j j + m * (u.sides must never).2)).map V.int))
        have er8 : (upd H7 c (.lst ((L.set j (ent y (u.sides must never).1 (u.sides must never).2 j j + m * (u.sides must never).2)).map V.int))) r = some (.lst (y.map V.int)) := by rw [upd_ne hrc]; exact er7
        have s8 : Same H (upd H7 c (.lst ((L.set j (ent y (u.sides must never).1 (u.sides must never).2 j j + m * (u.sides must never).2)).map V.int))) := same_grow n0 s7
        revert ec8 er8 s8
        generalize upd H7 c (.lst ((L.set j (ent y (u.sides must never).1 (u.sides must never).2 j j + m * (u.sides must never).2)).map V.int)) = H8
        intro ec8 er8 s8
        refine ⟨_, rfl, _, rfl, _, _, rfl, rfl, c, _, _, _, rfl, rfl, SqL.of ec8, (atI_nat (j := j + 1) (by rw [List.getElem?_map, List.getElem?_set_ne (by omega), l2]; rfl)), _, rfl, _, rfl, m, _, rfl, rfl, .inr ⟨by omega, by omega⟩, _, _, rfl, rfl, ?_⟩
        refine ⟨_, rfl, _, rfl, _, _, rfl, rfl, c, _, _, j + 1, rfl, rfl, ec8, (ixN_at (j := j + 1) (by rw [List.length_map, List.length_set]; omega)), ?_⟩
        rw [← List.map_set]
        refine ⟨_, some (.int (j : Nat)), some (.int m), rfl, same_grow n0 s8, by rw [upd_ne hrc]; exact er8, upd_same, by rw [List.length_set, List.length_set]; exact lL, fun i hi => ?_⟩
        have li := hL i hi
        have b1 : i < L.length := by omega
        by_cases c1 : i = j + 1
        · subst c1
          rw [List.getElem?_set_self (by rw [List.length_set]; omega)]
          unfold ent
          rw [if_neg (by omega), if_neg (by omega), if_neg (by omega), if_pos (by omega), Nat.add_sub_cancel, ym]
          simp
        · rw [List.getElem?_set_ne (by omega)]
          by_cases c2 : i = j
          · subst c2
            rw [List.getElem?_set_self b1]
            unfold ent
            rw [if_neg (by omega), if_pos (show i < i + 1 by omega), ym]
            by_cases c3 : 1 ≤ i
            · rw [if_pos (by omega), if_pos (by omega)]
              congr 1
              omega
            · rw [if_neg (by omega), if_neg (by omega)]
              congr 1
              omega
          · rw [List.getElem?_set_ne (by omega), li]
            congr 1
            unfold ent
            have e1 : (i < j) = (i < j + 1) := by
              apply propext
              omega
            have e2 : (1 ≤ i ∧ i - 1 < j) = (1 ≤ i ∧ i - 1 < j + 1) := by
              apply propext
              omega
            simp only [e1, e2]
      · rintro σ H6 ⟨L, x8, x9, rfl, s6, er6, ec6, lL, hL⟩
        refine ⟨_, rfl, _, c, _, _, _, _, _, _, rfl, s6, n0, rfl, ?_⟩
        rw [ec6, tbl_take hu, ← ey]
        have e : L = stepT y (u.sides must never).1 (u.sides must never).2 := by
          refine List.ext_getElem? fun i => ?_
          by_cases hi : i ≤ y.length
          · rw [stepT_ent _ _ _ _ hi, hL i hi, List.length_map]
          · rw [List.getElem?_eq_none (by omega), List.getElem?_eq_none (by rw [stepT_length]; omega)]
        rw [e]
    · rintro σ H1 ⟨y, r, x4, x5, x6, x7, x8, x9, rfl, s1, nr, ey, er⟩
      rw [hlen, List.take_length] at ey
      subst ey
      refine ⟨_, rfl, _, rfl, av, _, _, _, rfl, rfl, (Fz.of (ex := []) s1).tup h1, at0, k, rfl, r, _, rfl, SqL.of er, fun D nD => ?_⟩
      have s2 : Same H1 (upd H1 D (.lst (cutV ((Tr.tbl must never [1] ps).map V.int) (some k) none))) := new_same _ nD
      have eD := upd_same (H := H1) (a := D) (o := .lst (cutV ((Tr.tbl must never [1] ps).map V.int) (some k) none))
      revert s2 eD
      generalize upd H1 D (.lst (cutV ((Tr.tbl must never [1] ps).map V.int) (some k) none)) = H2
      intro s2 eD
      rw [cut_from hk, ← List.map_drop] at eD
      refine ⟨D, _, rfl, SqL.of eD, _, rfl, _, rfl, av, _, _, _, rfl, rfl, (Fz.of (ex := []) (s1.trans s2)).tup h1, at0, k, rfl, r, _, rfl, SqL.of (s2 _ _ er), fun D2 nD2 => ?_⟩
      have s3 : Same H2 (upd H2 D2 (.lst (cutV ((Tr.tbl must never [1] ps).map V.int) none (some k)))) := new_same _ nD2
      have eD2 := upd_same (H := H2) (a := D2) (o := .lst (cutV ((Tr.tbl must never [1] ps).map V.int) none (some k)))
      revert s3 eD2
      generalize upd H2 D2 (.lst (cutV ((Tr.tbl must never [1] ps).map V.int) none (some k))) = H3
      intro s3 eD2
      rw [cut_to hk, ← List.map_take] at eD2
      refine ⟨D2, _, rfl, SqL.of eD2, (by show 2 ≤ sizeLine; decide), fun p np => ?_⟩
      have s03 := s1.trans (s2.trans s3)
      exact q0 p _ (s03.trans (new_same _ np)) (s03.free np) (by rw [upd_same]; simp only [Tr.sides])
theorem len_lsides {K : PySem.W.Frag} {n : Nat} : ∀ vs H Q E, sp_gmany K n vs H Q E → vs.length = ["_law_tree_here", "_law_must", "_law_never"].length := fun vs H Q E h => by
  obtain ⟨t, v, a, b, must, never, rfl, _⟩ := h
  rfl
end K19

namespace K19
open PySem PySem.Spec PyProof.Rows L2

/-! ### _law_going_many -/
theorem cntG_torn (t : Tr) (row must never : List Int) (ok : TreeOk t row) (h : ∃ x ∈ must, x ∈ never ∧ x ∈ row) : (t.sides must never).1 = 0 := by
  obtain ⟨x, h1, h2, h3⟩ := h
  rw [(sides_ok must never t ok.wf ok.leaves).1]
  exact cnt_torn must never x h1 h2 _ _ (ok.perm.mem_iff.mpr h3)
theorem cntG_bound (t : Tr) (row must never : List Int) (ok : TreeOk t row) : 0 ≤ cntG t row must never ∧ cntG t row must never < 2 ^ 64 := by
  unfold cntG
  have := (sides_bound (m := must) (n := never) ok.wf ok.leaves ok.len).1
  split
  · exact this
  · exact ⟨Int.le_refl _, by decide⟩
def sp_lgmany (K : PySem.W.Frag) : Sp := fun vs H Q _ => ∃ (t : Tr) (row : List Int) (v : V) (a b : Addr) (must never : List Int), vs = [v, .ref a, .ref b] ∧ TrAt K H t v ∧ TreeOk t row ∧ SqT K H a (must.map V.int) ∧ must.length ≤ 1000 ∧ SqT K H b (never.map V.int) ∧
  ∀ H' : Hp, Same H H' → Q (.int (cntG t row must never)) H'
theorem law_lgmany {K : PySem.W.Frag} {w : World} (vs : List V) (H : Hp) (Q : VK) (E : XK) (h : sp_lgmany K vs H Q E) : t_lgmany K w (sp_lheld K 8) (sp_gmany K 8) { nx := fun _ H' => Q .non H', rt := Q } (start N_lgmany vs) H := by
  obtain ⟨t, row, v, a, b, must, never, rfl, ht, ok, ha, hm, hb, q⟩ := h
  have hml : ∀ x, x ∈ t.leaves ↔ x ∈ row := fun x => ok.perm.mem_iff
  refine ⟨_, rfl, a, rfl, ⟨_, ha⟩, fun D nD => lcfil (walk_tup (K := K) (a := a) (xs := must.map V.int)) (fun H2 s2 => (Fz.of (ex := []) s2).tup ha) (by rw [List.length_map]; omega) (fun _ => rfl)
    (fun v => match v with | .int n => decide (n ∈ never) || !decide (n ∈ row) | _ => false) (fun _ => .int 1) (fun v H2 Q2 hv s2 q2 => ?_) (fun v H2 Q2 _ _ _ q2 => q2) nD fun H2 s2 eD => ?_⟩
  · obtain ⟨n, _, rfl⟩ := List.mem_map.mp hv
    refine ⟨_, rfl, .ref b, rfl, b, never.map V.int, rfl, .inr ((Fz.of (ex := []) s2).tup hb), rfl, flat_ints never, _, rfl, ?_⟩
    rw [if_neg Bool.false_ne_true, inV_ints]
    refine ite2 (fun c => ?_) (fun c => ?_)
    · have := q2 H2 (Same.refl H2)
      simp only [of_decide_eq_true c, decide_true, Bool.true_or] at this
      exact this
    · refine ⟨_, rfl, _, rfl, t, v, rfl, TrAt.fz (Fz.of (ex := []) s2) t v ht, ok.deep, by have := ok.len; omega, fun r H3 s3 nr er => ?_⟩
      refine ⟨r, _, rfl, .inl (SqL.of er), rfl, flat_ints _, _, rfl, ?_⟩
      rw [if_pos rfl, inV_ints]
      have := q2 H3 s3
      have c' : decide (n ∈ never) = false := Bool.eq_false_iff.mpr c
      simp only [c', Bool.false_or] at this
      simp only [hml n]
      exact this
  · have eD' : H2 D = some (.lst (((must.filter fun n => decide (n ∈ never) || !decide (n ∈ row)).map fun _ => (1 : Int)).map V.int)) := by
      rw [eD, filter_ints, List.map_map, List.map_map]
      rfl
    refine ⟨(by show 0 ≤ sizeLine; decide), fun z nz => ?_⟩
    have s3 : Same H2 (upd H2 z (.lst [])) := new_same _ nz
    have sh := s2.trans s3
    refine ne_nil (s3 _ _ eD') upd_same ⟨_, rfl, ?_⟩
    by_cases c : ∀ x ∈ must, x ∉ never ∧ x ∈ row
    · have e : must.filter (fun n => decide (n ∈ never) || !decide (n ∈ row)) = [] := by
        rw [List.filter_eq_nil_iff]
        intro x hx
        simp [c x hx]
      rw [e]
      refine iteF ?_
      refine ⟨_, rfl, _, rfl, _, rfl, t, v, a, b, must, never, rfl, TrAt.fz (Fz.of (ex := []) sh) t v ht, .inr ((Fz.of (ex := []) sh).tup ha), .inr ((Fz.of (ex := []) sh).tup hb), ok.deep, ok.wf, ok.leaves, ok.len, fun g H4 s4 ng eg => ?_⟩
      refine ⟨g, _, 0, _, rfl, rfl, SqT.inj eg, rfl, ?_⟩
      have := q H4 (sh.trans s4)
      unfold cntG at this
      rw [if_pos fun x hx => (c x hx).2] at this
      exact this
    · have e : must.filter (fun n => decide (n ∈ never) || !decide (n ∈ row)) ≠ [] := by
        intro e
        rw [List.filter_eq_nil_iff] at e
        refine c fun x hx => ?_
        have := e x hx
        simp only [Bool.or_eq_true, Bool.not_eq_true', decide_eq_true_eq, decide_eq_false_iff_not, not_or, Decidable.not_not] at this
        exact this
      have d : decide ((must.filter fun n => decide (n ∈ never) || !decide (n ∈ row)).map (fun _ => (1 : Int)) ≠ []) = true := decide_eq_true fun z => e (List.map_eq_nil_iff.mp z)
      rw [d]
      refine iteT ?_
      have := q _ sh
      unfold cntG at this
      by_cases c2 : ∀ x ∈ must, x ∈ row
      · rw [if_pos c2] at this
        rw [cntG_torn t row must never ok] at this
        · exact this
        · refine Classical.byContradiction fun no => c fun x hx => ⟨fun hn => no ⟨x, hx, hn, c2 x hx⟩, c2 x hx⟩
      · rw [if_neg c2] at this
        exact this
theorem len_lgmany {K : PySem.W.Frag} : ∀ vs H Q E, sp_lgmany K vs H Q E → vs.length = ["_law_tree_here", "_law_must", "_law_never"].length := fun vs H Q E h => by
  obtain ⟨t, row, v, a, b, must, never, rfl, _⟩ := h
  rfl

/-! ### rows of lots -/
def Rows (K : PySem.W.Frag) (H : Hp) (bs : List (Addr × List Int)) : Prop := ∀ b ∈ bs, SqT K H b.1 (b.2.map V.int)
def refs (bs : List (Addr × List Int)) : List V := bs.map fun b => V.ref b.1
theorem Rows.fz {K : PySem.W.Frag} {ex : List Addr} {H H' : Hp} {bs : List (Addr × List Int)} (h : Fz ex H H') (r : Rows K H bs) : Rows K H' bs := fun b hb => h.tup (r b hb)
theorem Rows.app {K : PySem.W.Frag} {H : Hp} {bs cs : List (Addr × List Int)} (r : Rows K H bs) (q : Rows K H cs) : Rows K H (bs ++ cs) := fun b hb => (List.mem_append.mp hb).elim (r b) (q b)
theorem refs_get {bs : List (Addr × List Int)} {i : Nat} {x : V} (h : (refs bs)[i]? = some x) : ∃ b, bs[i]? = some b ∧ x = .ref b.1 := by
  unfold refs at h
  rw [List.getElem?_map] at h
  cases e : bs[i]? with
  | none =>
    rw [e] at h
    cases h
  | some b =>
    rw [e] at h
    exact ⟨b, rfl, (Option.some.inj h).symm⟩
theorem catA {K : PySem.W.Frag} {H : Hp} {a b : Addr} {xs ys : List V} {Q : VK} (ha : SqT K H a xs) (hb : SqT K H b ys) (hl : xs.length + ys.length ≤ 1000) (q : ∀ (p : Addr) (H' : Hp), Same H H' → SqT K H' p (xs ++ ys) → Q (.ref p) H') : rCatA K (.ref a) (.ref b) H Q := by
  refine ⟨a, b, xs, ys, rfl, rfl, ha, hb, Nat.le_of_lt (small1000 hl), fun e => ?_, fun _ e => ?_, fun _ _ p np => ?_⟩
  · subst e
    exact q b H (Same.refl H) hb
  · subst e
    refine q a H (Same.refl H) ?_
    rw [List.append_nil]
    exact ha
  · exact q p _ (new_same _ np) (SqT.inj upd_same)
def sp_levery (K : PySem.W.Frag) : Sp := fun vs H Q _ => ∃ (a : Addr) (row : List Int), vs = [.ref a] ∧ SqL K H a (row.map V.int) ∧ row.length ≤ 10 ∧ (∀ x ∈ row, 0 ≤ x) ∧
  ∀ (r : Addr) (H' : Hp) (bs : List (Addr × List Int)), Same H H' → H r = none → H' r = some (.lst (refs bs)) → bs.map (·.2) = every row → Rows K H' bs → Q (.ref r) H'
theorem every_take {row : List Int} {i : Nat} {b : Int} (h : row[i]? = some b) : every (row.take (i + 1)) = stepE (every (row.take i)) b := by
  unfold every
  rw [take_more h, List.foldl_append]
  rfl
theorem every_long : ∀ (row : List Int) (s : List Int), s ∈ every row → s.length ≤ row.length := by
  have key : ∀ (row : List Int) (found : List (List Int)) (m : Nat), (∀ s ∈ found, s.length ≤ m) → ∀ s ∈ row.foldl stepE found, s.length ≤ m + row.length := by
    intro row
    induction row with
    | nil => intro found m h s hs; exact Nat.le_trans (h s hs) (Nat.le_add_right _ _)
    | cons b row ih =>
      intro found m h s hs
      rw [List.foldl_cons] at hs
      have := ih (stepE found b) (m + 1) (fun u hu => by
        rcases List.mem_append.mp hu with hu | hu
        · exact Nat.le_succ_of_le (h u hu)
        · obtain ⟨u', hu', rfl⟩ := List.mem_map.mp hu
          have := h u' hu'
          simp only [List.length_append, List.length_singleton]
          omega) s hs
      simp only [List.length_cons]
      omega
  intro row s hs
  have := key row [[]] 0 (fun s hs => by simp at hs; subst hs; simp) s hs
  omega
theorem law_levery {K : PySem.W.Frag} {w : World} (vs : List V) (H : Hp) (Q : VK) (E : XK) (h : sp_levery K vs H Q E) : t_levery K w { nx := fun _ H' => Q .non H', rt := Q } (start N_levery vs) H := by
  obtain ⟨a, row, rfl, ha, hl, _, q⟩ := h
  refine ⟨(by show 0 ≤ sizeLine; decide), fun p0 np0 => ⟨(by show 1 ≤ sizeLine; decide), fun o no => ?_⟩⟩
  have s1 : Same H (upd H p0 (.tup [])) := new_same _ np0
  have s2 : Same (upd H p0 (.tup [])) (upd (upd H p0 (.tup [])) o (.lst [.ref p0])) := new_same _ no
  have ep : (upd (upd H p0 (.tup [])) o (.lst [.ref p0])) p0 = some (.tup []) := s2 _ _ upd_same
  refine ⟨_, rfl, a, rfl, ⟨_, (s1.trans s2).seq ha⟩, for_list (K := K) (a := a) (xs := row.map V.int)
    (fun i σ H2 => ∃ r x2 bs, σ = [some (.ref a), some (.ref r), x2, none] ∧ Same H H2 ∧ H r = none ∧ H2 r = some (.lst (refs bs)) ∧ bs.map (·.2) = every (row.take i) ∧ Rows K H2 bs)
    ⟨o, none, [(p0, [])], rfl, s1.trans s2, s1.free no, upd_same, rfl, fun b hb => ?_⟩ (fun i σ H2 _ hP => ?_) ?_ ?_⟩
  · have e : b = (p0, []) := by simpa using hb
    subst e
    exact SqT.inj ep
  · obtain ⟨_, _, _, _, s, _⟩ := hP
    exact s.seq ha
  · rintro i v σ H2 hv ⟨r, x2, bs, rfl, s2, nr, er, ev, rw'⟩
    obtain ⟨x, hx, rfl⟩ := ints_get hv
    have hi := (List.getElem?_eq_some_iff.mp hx).1
    have hbl : bs.length ≤ 1024 := by
      have e1 := congrArg List.length ev
      rw [List.length_map] at e1
      unfold every at e1
      rw [every_length] at e1
      rw [e1, List.length_take, List.length_singleton, Nat.one_mul]
      have := Nat.pow_le_pow_right (n := 2) (by decide) (show min i row.length ≤ 10 by omega)
      exact this
    refine ⟨_, rfl, _, rfl, r, rfl, ⟨_, SqL.of er⟩, fun D nD => lc_list (K := K) (a := r) (xs := refs bs)
      (fun j H3 => Same H2 H3 ∧ ∃ cs, H3 D = some (.lst (refs cs)) ∧ cs.map (·.2) = ((bs.take j).map fun b => b.2 ++ [x]) ∧ Rows K H3 cs) ⟨new_same _ nD, [], upd_same, rfl, fun b hb => nomatch hb⟩ (fun j H3 _ hP => hP.1.seq (SqL.of er)) ?_ ?_⟩
    · rintro j y H3 hy ⟨s3, cs, e3, ec, rc⟩
      obtain ⟨b, hb, rfl⟩ := refs_get hy
      have hbm := List.mem_of_getElem? hb
      have hj := (List.getElem?_eq_some_iff.mp hb).1
      have hlen : b.2.length ≤ 10 := by
        have : b.2 ∈ every (row.take i) := by
          rw [← ev]
          exact List.mem_map.mpr ⟨b, hbm, rfl⟩
        have := every_long _ _ this
        rw [List.length_take] at this
        omega
      have hcs : cs.length ≤ 1024 := by
        have e1 := congrArg List.length ec
        rw [List.length_map, List.length_map, List.length_take] at e1
        omega
      refine ⟨rfl, ?_⟩
      refine ⟨_, rfl, _, rfl, (by show 1 ≤ sizeLine; decide), fun T nT => ?_⟩
      have sT : Same H3 (upd H3 T (.tup [.int x])) := new_same _ nT
      refine catA (xs := b.2.map V.int) (ys := [.int x]) ((Fz.of (ex := []) (s3.trans sT)).tup (rw' b hbm)) (SqT.inj upd_same) (by rw [List.length_map, List.length_singleton]; omega) fun c H4 s4 hc => ?_
      have sT4 := sT.trans s4
      have eD4 : H4 D = some (.lst (refs cs)) := sT4 _ _ e3
      have hc' : SqT K H4 c ((b.2 ++ [x]).map V.int) := by
        rw [List.map_append]
        exact hc
      refine ⟨_, eD4, ?_, same_grow nD (s3.trans sT4), cs ++ [(c, b.2 ++ [x])], ?_, ?_, ?_⟩
      · unfold refs
        rw [List.length_map]
        exact Nat.lt_of_le_of_lt hcs (by decide)
      · rw [upd_same]
        unfold refs
        rw [List.map_append]
        rfl
      · rw [List.map_append, ec, take_more hb, List.map_append]
        rfl
      · have g : ∀ {u : Addr} {zs : List V}, SqT K H4 u zs → SqT K (upd H4 D (.lst (refs cs ++ [.ref c]))) u zs := fun {u zs} h => (Fz.chg (ex := [D]) eD4 rfl (List.mem_singleton.mpr rfl)).tup h
        intro b' hb'
        rcases List.mem_append.mp hb' with hb' | hb'
        · exact g ((Fz.of (ex := []) sT4).tup (rc b' hb'))
        · have e : b' = (c, b.2 ++ [x]) := by simpa using hb'
          subst e
          exact g hc'
    · rintro H3 ⟨s3, cs, e3, ec, rc⟩
      have e3' : H3 D = some (.lst (refs cs)) := e3
      have hcs : cs.length ≤ 1024 := by
        have e1 := congrArg List.length ec
        rw [List.length_map, List.length_map, List.length_take] at e1
        omega
      refine ⟨r, D, refs bs, refs cs, rfl, rfl, s3 _ _ er, e3', ?_, fun c nc => ?_⟩
      · unfold refs
        rw [List.length_map, List.length_map]
        have : sizeLine = 16777216 := rfl
        omega
      · have s4 := s3.trans (new_same (.lst (refs bs ++ refs cs)) nc)
        refine ⟨c, some (.int x), bs ++ cs, rfl, s2.trans s4, (s2.trans s3).free nc, ?_, ?_, ?_⟩
        · rw [upd_same]
          unfold refs
          rw [List.map_append]
        · rw [every_take hx, List.map_append, ec, ← ev]
          unfold stepE
          rw [List.map_map]
          have : bs.take (refs bs).length = bs := by
            unfold refs
            rw [List.length_map, List.take_length]
          rw [this]
          rfl
        · exact Rows.app (rw'.fz (Fz.of (ex := []) s4)) (rc.fz (Fz.new (ex := []) nc))
  · rintro σ H2 ⟨r, x2, bs, rfl, s2, nr, er, ev, rw'⟩
    refine ⟨_, rfl, q r H2 bs s2 nr er ?_ rw'⟩
    rw [ev, List.length_map, List.take_length]
theorem len_levery {K : PySem.W.Frag} : ∀ vs H Q E, sp_levery K vs H Q E → vs.length = ["_law_row"].length := fun vs H Q E h => by
  obtain ⟨a, row, rfl, _⟩ := h
  rfl

/-! ### _law_words -/
/-- a new list of what te makes of each, the heap grown alone -/
theorem lcgen {α : Type} {J : It} {zs : List α} {f : α → V} {G : Hp → Prop} {te : TE} {x : Nat} {σ : L2.St} {H : Hp} {D : Addr} {Qd : Hp → Prop} (w : Walk J zs.length G (YAt (zs.map f))) (hG : ∀ H', Same H H' → G H') (hl : zs.length ≤ 1000000) (hw : ∀ v, wipe ((wipe σ [x]).set x v) [x] = wipe σ [x])
    (g : α → V) (he : ∀ (z : α) (H2 : Hp) (Q2 : VK), z ∈ zs → Same H H2 → (∀ H3, Same H2 H3 → Q2 (g z) H3) → te ((wipe σ [x]).set x (some (f z))) H2 Q2) (nD : H D = none) (q : ∀ H', Same H H' → H' D = some (.lst (zs.map g)) → Qd H') :
    ∃ W : Nat → Nat → Hp → Prop, (∃ m, W 0 m (upd H D (.lst []))) ∧ ∀ i m H, W i m H →
      (J.stop i H ∧ Qd H) ∨ (J.go i H ∧ ∃ Nx : Hp → Prop, (∀ H', Nx H' → ∃ m', m' < m ∧ W (i + 1) m' H') ∧ ∀ v H', J.yld i H v H' → (gName x) v (wipe σ [x]) H' fun σ2 H2 => wipe σ2 [x] = wipe σ [x] ∧ tYes σ2 H2 fun b H3 =>
        if b = true then te σ2 H3 fun y H4 => ∃ acc, H4 D = some (.lst acc) ∧ acc.length < sizeLine ∧ Nx (upd H4 D (.lst (acc ++ [y]))) else Nx H3) := by
  refine lc_it w (fun i H2 => Same H H2 ∧ H2 D = some (.lst ((zs.take i).map g))) ⟨new_same _ nD, upd_same⟩ (fun i H2 _ hP => hG H2 hP.1) ?_ ?_
  · rintro i v H2 _ hi ⟨s2, e2⟩ ⟨rfl, hv⟩
    rw [List.getElem?_map] at hv
    cases hz : zs[i]? with
    | none =>
      rw [hz] at hv
      cases hv
    | some z =>
      rw [hz] at hv
      cases hv
      refine ⟨hw _, ?_⟩
      refine he z _ _ (List.mem_of_getElem? hz) s2 fun H3 s3 => ⟨_, s3 _ _ e2, ?_, same_grow nD (s2.trans s3), ?_⟩
      · rw [List.length_map, List.length_take]
        exact Nat.lt_of_le_of_lt (by omega : _ ≤ 1000000) (by decide)
      · rw [upd_same, take_more hz, List.map_append]
        rfl
  · rintro H2 ⟨s2, e2⟩
    rw [List.take_length] at e2
    exact q H2 s2 e2
theorem walk_list_of {α : Type} {K : PySem.W.Frag} {a : Addr} {zs : List α} {f : α → V} : Walk (Itl K a) zs.length (fun H => SqL K H a (zs.map f)) (YAt (zs.map f)) := by
  have h := walk_list (K := K) (a := a) (xs := zs.map f)
  rw [List.length_map] at h
  exact h
theorem walk_tup_of {α : Type} {K : PySem.W.Frag} {a : Addr} {zs : List α} {f : α → V} : Walk (Itt K a) zs.length (fun H => SqT K H a (zs.map f)) (YAt (zs.map f)) := by
  have h := walk_tup (K := K) (a := a) (xs := zs.map f)
  rw [List.length_map] at h
  exact h
def sp_lwords (K : PySem.W.Frag) (n : Nat) : Sp := fun vs H Q _ => ∃ (t : Tr) (v : V) (a : Addr) (bs : List (Addr × List Int)), vs = [v, .ref a] ∧ TrAt K H t v ∧ t.depth < n ∧ SqL K H a (refs bs) ∧ Rows K H bs ∧ bs.length ≤ 10000 ∧
  ∀ (r : Addr) (H' : Hp), Same H H' → H r = none → H' r = some (.lst (bs.map fun b => V.bl (t.goes b.2))) → Q (.ref r) H'
theorem rep_zeroV (n : Nat) : (List.replicate n ([V.int 0] : List V)).flatten = List.replicate n (V.int 0) := by
  rw [rep_zero, List.map_replicate]
theorem law_lwords {K : PySem.W.Frag} {w : World} {n : Nat} (vs : List V) (H : Hp) (Q : VK) (E : XK) (h : sp_lwords K (n + 1) vs H Q E) : t_lwords K w (sp_lwords K n) { nx := fun _ H' => Q .non H', rt := Q } (start N_lwords vs) H := by
  obtain ⟨t, v, a, bs, rfl, ht, hn, ha, hr, hl, q⟩ := h
  refine ⟨v, rfl, v, .ty "int", _, _, _, rfl, .ty "int", ht.any.ty, isi_ans ht.any.kn (by simp), ?_⟩
  cases t with
  | leaf x =>
    have ev : v = .int x := by simpa only [TrAt] using ht
    subst ev
    refine ⟨_, rfl, iteT ?_⟩
    refine ⟨_, rfl, a, rfl, ⟨_, ha⟩, fun D nD => lcgen (walk_list_of (K := K) (a := a) (zs := bs) (f := fun b => V.ref b.1)) (fun H2 s2 => s2.seq ha) (by omega) (fun _ => rfl)
      (fun b => V.bl ((Tr.leaf x).goes b.2)) (fun b H2 Q2 hb s2 q2 => ?_) nD fun H2 s2 eD => q D H2 s2 nD eD⟩
    refine ⟨_, rfl, _, rfl, b.1, _, rfl, .inr ((Fz.of (ex := []) s2).tup (hr b hb)), rfl, flat_ints _, ?_⟩
    rw [if_neg Bool.false_ne_true, inV_ints]
    have := q2 H2 (Same.refl H2)
    simpa only [Tr.goes] using this
  | node k ps =>
    refine ⟨_, rfl, iteF ?_⟩
    simp only [TrAt] at ht
    simp only [Tr.depth] at hn
    obtain ⟨av, pq, xs, rfl, h1, h2, h3⟩ := ht
    have hlen := TrAll.length ps xs h3
    refine ⟨(by show 1 ≤ sizeLine; decide), fun z nz => ?_⟩
    have s1 : Same H (upd H z (.lst [.int 0])) := new_same _ nz
    have ez := upd_same (H := H) (a := z) (o := .lst [.int 0])
    refine ⟨_, rfl, a, _, rfl, .inl (s1.seq ha), z, _, _, rfl, rfl, ez, by omega, ?_, ?_, fun c nc => ?_⟩
    · show ((refs bs).length : Int) < 2 ^ 63
      unfold refs
      rw [List.length_map]
      omega
    · show 1 * (((refs bs).length : Int)).toNat ≤ sizeLine
      unfold refs
      rw [List.length_map]
      have : sizeLine = 16777216 := rfl
      omega
    have e0 : (List.replicate (((refs bs).length : Int)).toNat ([V.int 0] : List V)).flatten = bs.map fun b => V.int ((Tr.ngoes b.2 (ps.take 0) : Nat) : Int) := by
      rw [rep_zeroV]
      unfold refs
      rw [List.length_map, Int.toNat_natCast, List.map_eq_replicate_iff.mpr]
      intro b _
      rw [List.take_zero]
      rfl
    rw [e0]
    have s2 := s1.trans (new_same (.lst (bs.map fun b => V.int ((Tr.ngoes b.2 (ps.take 0) : Nat) : Int))) nc)
    refine ⟨_, rfl, av, _, _, _, rfl, rfl, (Fz.of (ex := []) s2).tup h1, at1, pq, rfl, ⟨xs, (Fz.of (ex := []) s2).tup h2⟩, for_tup (K := K) (a := pq) (xs := xs)
      (fun i σ H2 => ∃ r x3, σ = [some (.ref av), some (.ref a), some (.ref r), x3, none, none, none] ∧ Same H H2 ∧ H r = none ∧ H2 r = some (.lst (bs.map fun b => V.int ((Tr.ngoes b.2 (ps.take i) : Nat) : Int))))
      ⟨c, none, rfl, s2, s1.free nc, upd_same⟩ (fun i σ H2 _ hP => ?_) ?_ ?_⟩
    · obtain ⟨_, _, _, s2, _⟩ := hP
      exact (Fz.of (ex := []) s2).tup h2
    · rintro i x σ H2 hi ⟨r, x3, rfl, s2, nr, er⟩
      obtain ⟨u, hu, tu⟩ := TrAll.get ps xs i x h3 hi
      have hdu := depthAll_get hu
      refine ⟨_, rfl, _, rfl, _, rfl, u, x, a, bs, rfl, TrAt.fz (Fz.of (ex := []) s2) u x tu, by omega, s2.seq ha, hr.fz (Fz.of (ex := []) s2), hl, fun g H3 s3 ng eg => ?_⟩
      have er3 := s3 _ _ er
      have s03 := s2.trans s3
      refine ⟨r, g, _, _, rfl, SqL.of er3, SqL.of eg, fun D nD => lc_zip (by simp)
        (fun j H4 => Same H3 H4 ∧ H4 D = some (.lst ((bs.take j).map fun b => V.int ((Tr.ngoes b.2 (ps.take (i + 1)) : Nat) : Int)))) ⟨new_same _ nD, upd_same⟩ (fun j H4 _ hP => ⟨hP.1.seq (SqL.of er3), hP.1.seq (SqL.of eg)⟩) ?_ ?_⟩
      · rintro j y1 y2 T H4 hy1 hy2 ⟨s4, e4⟩ nT
        rw [List.getElem?_map] at hy1 hy2
        cases hb : bs[j]? with
        | none =>
          rw [hb] at hy1
          cases hy1
        | some b =>
          rw [hb] at hy1 hy2
          cases hy1
          cases hy2
          have DT : D ≠ T := ne_of_none e4 nT
          refine ⟨T, _, rfl, SqT.inj upd_same, rfl, _, _, rfl, _, _, rfl, rfl, rfl, _, rfl, _, rfl, .inr ⟨_, rfl, _, _, rfl, rfl, _, ((upd_ne DT).trans e4), ?_, same_grow nD (s4.trans (new_same _ nT)), ?_⟩⟩
          · rw [List.length_map, List.length_take]
            have : sizeLine = 16777216 := rfl
            omega
          · rw [upd_same, take_more hb, List.map_append]
            congr 2
            simp only [List.map_cons, List.map_nil, ngoes_take hu]
            by_cases c : u.goes b.2 = true <;> simp [c]
      · rintro H4 ⟨s4, e4⟩
        refine ⟨D, _, rfl, s03.trans s4, s03.free nD, ?_⟩
        rw [e4, List.length_map, List.take_length]
    · rintro σ H2 ⟨r, x3, rfl, s2, nr, er⟩
      refine ⟨_, rfl, r, rfl, ⟨_, SqL.of er⟩, fun D nD => lcgen (walk_list_of (K := K) (a := r) (zs := bs) (f := fun b => V.int ((Tr.ngoes b.2 (ps.take xs.length) : Nat) : Int))) (fun H3 s3 => s3.seq (SqL.of er)) (by omega) (fun _ => rfl)
        (fun b => V.bl ((Tr.node k ps).goes b.2)) (fun b H3 Q3 hb s3 q3 => ?_) nD fun H3 s3 eD => q D H3 (s2.trans s3) (s2.free nD) eD⟩
      refine ⟨_, rfl, _, rfl, av, _, _, _, rfl, rfl, (Fz.of (ex := []) (s2.trans s3)).tup h1, at0, _, _, rfl, rfl, ?_⟩
      have := q3 H3 (Same.refl H3)
      rw [hlen, List.take_length]
      simpa only [Tr.goes] using this
theorem len_lwords {K : PySem.W.Frag} {n : Nat} : ∀ vs H Q E, sp_lwords K n vs H Q E → vs.length = ["_law_tree_here", "_law_every_here"].length := fun vs H Q E h => by
  obtain ⟨t, v, a, bs, rfl, _⟩ := h
  rfl
end K19

namespace K19
open PySem PySem.Spec PyProof.Rows L2

/-! ### the bag -/
def bagK (g : Addr) (m t : Int) : List (Key × V) := [(.inr "great", .ref g), (.inr "mixed", .int m), (.inr "turn", .int t)]
theorem bag_great (g : Addr) (m t : Int) : valV (bagK g m t) (.inr "great") = some (.ref g) := valV_pos rfl
theorem bag_mixed (g : Addr) (m t : Int) : valV (bagK g m t) (.inr "mixed") = some (.int m) := by
  unfold bagK
  rw [valV_neg (fun e => by simp at e; revert e; decide)]
  exact valV_pos rfl
theorem bag_turn (g : Addr) (m t : Int) : valV (bagK g m t) (.inr "turn") = some (.int t) := by
  unfold bagK
  rw [valV_neg (fun e => by simp at e; revert e; decide), valV_neg (fun e => by simp at e; revert e; decide)]
  exact valV_pos rfl
theorem bag_put (g : Addr) (m t t' : Int) : putK (bagK g m t) (.inr "turn") (.int t') = bagK g m t' := by
  have e1 : ¬ ((.inr "great" : Key) = .inr "turn") := fun e => by simp at e; revert e; decide
  have e2 : ¬ ((.inr "mixed" : Key) = .inr "turn") := fun e => by simp at e; revert e; decide
  unfold putK bagK
  simp [e1, e2]
theorem bag_new (g : Addr) (m t : Int) : mergeK [] (bagK g m t) = bagK g m t := by
  have e1 : ¬ ((.inr "great" : Key) = .inr "mixed") := fun e => by simp at e; revert e; decide
  have e2 : ¬ ((.inr "mixed" : Key) = .inr "turn") := fun e => by simp at e; revert e; decide
  have e3 : ¬ ((.inr "great" : Key) = .inr "turn") := fun e => by simp at e; revert e; decide
  unfold mergeK bagK putK
  simp [e1, e2, e3]
structure BagV (H : Hp) (p g : Addr) (m t : Int) (gs : List Int) : Prop where
  d : H p = some (.dK (bagK g m t))
  l : H g = some (.lst (gs.map V.int))
def Bag (H : Hp) (p g : Addr) : Prop := ∃ m t gs, BagV H p g m t gs
theorem BagV.same {H H' : Hp} {p g : Addr} {m t : Int} {gs : List Int} (b : BagV H p g m t gs) (s : Same H H') : BagV H' p g m t gs := ⟨s _ _ b.d, s _ _ b.l⟩
theorem Bag.same {H H' : Hp} {p g : Addr} (b : Bag H p g) (s : Same H H') : Bag H' p g := by
  obtain ⟨m, t, gs, b⟩ := b
  exact ⟨m, t, gs, b.same s⟩
theorem BagV.ne {H : Hp} {p g : Addr} {m t : Int} {gs : List Int} (b : BagV H p g m t gs) : p ≠ g := fun e => by
  have h1 := b.d
  rw [e, b.l] at h1
  cases h1
/-- away from the bag -/
def Off (p g a : Addr) : Prop := a ∉ [p, g]
theorem Bag.off {H : Hp} {p g a : Addr} (b : Bag H p g) (h : H a = none) : Off p g a := by
  obtain ⟨m, t, gs, b⟩ := b
  intro e
  rcases List.mem_cons.mp e with e | e
  · rw [e, b.d] at h
    cases h
  · rw [List.mem_singleton.mp e, b.l] at h
    cases h
theorem Fz.unset {ex : List Addr} {H H' : Hp} {a : Addr} (f : Fz ex H H') (n : H' a = none) (o : a ∉ ex) : H a = none := by
  cases e : H a with
  | none => rfl
  | some u =>
    rw [f a u e (.inl o)] at n
    cases n
theorem Fz.grow {ex : List Addr} {H H1 : Hp} {D : Addr} {o : HO} (nD : H D = none) (f : Fz ex H H1) : Fz ex H (upd H1 D o) := fun b u e k => by
  rw [upd_ne (ne_of_none e nD)]
  exact f b u e k

/-! ### _law_bag -/
def sp_lbag (K : PySem.W.Frag) : Sp := fun vs H Q _ => ∃ (a : Addr) (ns : List Int), vs = [.ref a] ∧ SqL K H a (ns.map V.int) ∧ ns.length ≤ 1000 ∧
  ∀ (p g : Addr) (H' : Hp), Same H H' → H p = none → H g = none → Bag H' p g → Q (.ref p) H'
theorem law_lbag {K : PySem.W.Frag} {w : World} (vs : List V) (H : Hp) (Q : VK) (E : XK) (h : sp_lbag K vs H Q E) : t_lbag K w { nx := fun _ H' => Q .non H', rt := Q } (start N_lbag vs) H := by
  obtain ⟨a, ns, rfl, ha, hl, q⟩ := h
  refine ⟨(by show 0 ≤ sizeLine; decide), fun g ng => ?_⟩
  have s1 : Same H (upd H g (.lst [])) := new_same _ ng
  have eg := upd_same (H := H) (a := g) (o := .lst [])
  revert s1 eg
  generalize upd H g (.lst []) = H1
  intro s1 eg
  refine ⟨_, rfl, a, _, rfl, .inl (s1.seq ha), _, _, rfl, rfl, _, _, rfl, ?_⟩
  refine ⟨_, rfl, 60, rfl, a, _, rfl, s1.seq ha, fun c nc => ?_⟩
  rw [cut_to (by decide), ← List.map_take]
  have s2 : Same H1 (upd H1 c (.lst ((ns.take (60 : Int).toNat).map V.int))) := new_same _ nc
  have ec := upd_same (H := H1) (a := c) (o := .lst ((ns.take (60 : Int).toNat).map V.int))
  revert s2 ec
  generalize upd H1 c (.lst ((ns.take (60 : Int).toNat).map V.int)) = H2
  intro s2 ec
  have hgc : g ≠ c := ne_of_none eg nc
  refine ⟨c, rfl, ⟨_, SqL.of ec⟩, for_list (K := K) (a := c) (xs := (ns.take (60 : Int).toNat).map V.int)
    (fun i σ H3 => ∃ (m : Int) (x3 : Option V) (gs : List Int), σ = [some (.ref a), some (.ref g), some (.int m), x3] ∧ Same H H3 ∧ H3 g = some (.lst (gs.map V.int)) ∧ gs.length ≤ i ∧ H3 c = some (.lst ((ns.take (60 : Int).toNat).map V.int)))
    ⟨_, none, [], rfl, s1.trans s2, s2 _ _ eg, Nat.le_refl _, ec⟩ (fun i σ H3 _ hP => ?_) ?_ ?_⟩
  · obtain ⟨_, _, _, _, _, _, _, e⟩ := hP
    exact SqL.of e
  · rintro i v σ H3 hv ⟨m, x3, gs, rfl, s3, e3, lg, ec3⟩
    obtain ⟨x, hx, rfl⟩ := ints_get hv
    have hi := (List.getElem?_eq_some_iff.mp hx).1
    have hi60 : i < 60 := by
      rw [List.length_take] at hi
      omega
    refine ⟨_, rfl, m, 48271, rfl, rfl, .inr ⟨by decide, by decide⟩, _, rfl, _, _, rfl, rfl, .inl ⟨_, rfl, _, _, rfl, rfl, (by show (_ : Int) ≠ 0; decide), ?_⟩⟩
    refine ⟨_, rfl, x, rfl, 10, 12, rfl, rfl, ⟨by decide, by decide, by decide⟩, _, _, rfl, rfl, _, rfl, ?_⟩
    refine ite2 (fun c1 => ?_) (fun c1 => ?_)
    · refine ⟨_, rfl, .inl ⟨rfl, _, SqL.of e3⟩, _, rfl, x, rfl, 2, _, rfl, rfl, .inl ⟨by decide, by decide⟩, _, rfl, x, 0, rfl, rfl, .inr ⟨_, rfl, _, _, rfl, rfl, ?_⟩⟩
      refine ⟨g, _, _, rfl, rfl, e3, ?_, ?_⟩
      · rw [List.length_map]
        exact small1000 (by omega)
      · refine ⟨_, some (.int x), gs ++ [(2 * if x < 0 then -x else x) + (if decide (x < 0) = true then 1 else 0)], rfl, same_grow ng s3, ?_, ?_, ?_⟩
        · rw [upd_same, List.map_append]
          rfl
        · rw [List.length_append, List.length_singleton]
          omega
        · rw [upd_ne (Ne.symm hgc)]
          exact ec3
    · exact ⟨_, some (.int x), gs, rfl, s3, e3, by omega, ec3⟩
  · rintro σ H3 ⟨m, x3, gs, rfl, s3, e3, lg, ec3⟩
    intro p np
    refine ⟨_, rfl, _, rfl, upd_same, bagK g m 0, rfl, (by show 3 ≤ 15; decide), ?_⟩
    rw [upd_upd, bag_new]
    have s4 := s3.trans (new_same (.dK (bagK g m 0)) np)
    exact q p g _ s4 (s3.free np) ng ⟨m, 0, gs, upd_same, s3 |> fun _ => (by rw [upd_ne (ne_of_none e3 np)]; exact e3)⟩
theorem len_lbag {K : PySem.W.Frag} : ∀ vs H Q E, sp_lbag K vs H Q E → vs.length = ["_law_script"].length := fun vs H Q E h => by
  obtain ⟨a, row, rfl, _⟩ := h
  rfl

/-! ### _law_draw -/
def sp_ldraw (K : PySem.W.Frag) : Sp := fun vs H Q _ => ∃ (p g : Addr) (n : Int), vs = [.ref p, .int n] ∧ Bag H p g ∧ 0 < n ∧ n < 1073741824 ∧
  ∀ (d : Int) (H' : Hp), 0 ≤ d → d < n → Fz [p, g] H H' → Bag H' p g → Q (.int d) H'
theorem dget_bag {H : Hp} {p g : Addr} {m t : Int} {gs : List Int} (b : BagV H p g m t gs) : DGet H p (.str "great") (some (.ref g)) := by
  rw [← bag_great g m t]
  exact DGet.k (k := .inr "great") b.d
theorem dget_mixed {H : Hp} {p g : Addr} {m t : Int} {gs : List Int} (b : BagV H p g m t gs) : DGet H p (.str "mixed") (some (.int m)) := by
  rw [← bag_mixed g m t]
  exact DGet.k (k := .inr "mixed") b.d
theorem dget_turn {H : Hp} {p g : Addr} {m t : Int} {gs : List Int} (b : BagV H p g m t gs) : DGet H p (.str "turn") (some (.int t)) := by
  rw [← bag_turn g m t]
  exact DGet.k (k := .inr "turn") b.d
theorem last_of {l : List Int} (h : l ≠ []) : ∃ l' x, l = l' ++ [x] := by
  rcases List.eq_nil_or_concat l with e | ⟨l', x, e⟩
  · exact absurd e h
  · exact ⟨l', x, by rw [e, List.concat_eq_append]⟩
theorem law_ldraw {K : PySem.W.Frag} {w : World} (vs : List V) (H : Hp) (Q : VK) (E : XK) (h : sp_ldraw K vs H Q E) : t_ldraw K w { nx := fun _ H' => Q .non H', rt := Q } (start N_ldraw vs) H := by
  obtain ⟨p, g, n, rfl, hb, hn, hn2, q⟩ := h
  obtain ⟨m0, t0, gs0, b0⟩ := hb
  have hpg := b0.ne
  have cm : ∀ i : Int, (-(2 ^ 64) < i ∧ i < 2 ^ 64) → ∀ j, CMul j i := fun i h j => .inr h
  refine ⟨fun k σ H2 => ∃ gs, σ = [some (.ref p), some (.int n), none, none] ∧ Fz [p, g] H H2 ∧ BagV H2 p g m0 t0 gs ∧ gs.length = k, ⟨_, gs0, rfl, Fz.refl, b0, rfl⟩, ?_⟩
  rintro k σ H2 ⟨gs, rfl, f2, b2, lk⟩
  refine ⟨_, rfl, p, _, rfl, dget_bag b2, (by show 0 ≤ sizeLine; decide), fun z nz => ?_⟩
  have sz : Same H2 (upd H2 z (.lst [])) := new_same _ nz
  refine ne_nil (sz _ _ b2.l) upd_same ⟨_, rfl, ?_⟩
  have f3 := f2.trans (Fz.of sz)
  have b3 := b2.same sz
  revert f3 b3
  generalize upd H2 z (.lst []) = H3
  intro f3 b3
  -- what comes behind the loop
  have behind : tSeq (tIfS (tTest (tOp (rNeD K) (tDGet (tVar 0) (tC (.str "great"))) (tLst tNil))) (tSeq (tAsg (tOp (rI (fun _ j => j ≠ 0) fun i j => .int (i.fmod j)) (tOp (rIxL K) (tDGet (tVar 0) (tC (.str "great"))) (tUn (rU fun i => .int (-i)) (tC (.int 1)))) (tVar 1)) (gName 2))
    (tSeq (tAsg (tOp (rI CDivN fun i j => .int (i.fdiv j)) (tOp (rIxL K) (tDGet (tVar 0) (tC (.str "great"))) (tUn (rU fun i => .int (-i)) (tC (.int 1)))) (tVar 1)) (gSub (tDGet (tVar 0) (tC (.str "great"))) (tUn (rU fun i => .int (-i)) (tC (.int 1))) rSetL))
    (tRet (tCB (fun xs H Q => (∃ i, xs = [.int i] ∧ Q (.int i) H) ∨ ∃ k, xs = [.bl k] ∧ Q (.int (if k then 1 else 0)) H) (tCons (tVar 2) tNil))))) tNext)
    (tSeq (sDPut (tVar 0) (tC (.str "turn")) (tOp (rI0 fun i j => .int (i + j)) (tDGet (tVar 0) (tC (.str "turn"))) (tC (.int 1))))
    (tSeq (tAsg (tOp (rI (fun _ j => j ≠ 0) fun i j => .int (i.fmod j)) (tCB (fun xs H Q => (∃ i, xs = [.int i] ∧ Q (.int i) H) ∨ ∃ k, xs = [.bl k] ∧ Q (.int (if k then 1 else 0)) H) (tCons (tOp (rI0 fun i j => .int (i + j)) (tDGet (tVar 0) (tC (.str "mixed"))) (tOp (rI CMul fun i j => .int (i * j)) (tDGet (tVar 0) (tC (.str "turn"))) (tC (.int 40692)))) tNil)) (tC (.int 2147483399))) (gName 3))
    (tSeq (tAsg (tOp (rI (fun _ j => j ≠ 0) fun i j => .int (i.fmod j)) (tCB (fun xs H Q => (∃ i, xs = [.int i] ∧ Q (.int i) H) ∨ ∃ k, xs = [.bl k] ∧ Q (.int (if k then 1 else 0)) H) (tCons (tOp (rI0 fun i j => .int (i + j)) (tOp (rI0 fun i j => .int (i + j)) (tOp (rI CMul fun i j => .int (i * j)) (tVar 3) (tVar 3)) (tOp (rI CMul fun i j => .int (i * j)) (tDGet (tVar 0) (tC (.str "turn"))) (tC (.int 69621)))) (tC (.int 5))) tNil)) (tC (.int 2147483647))) (gName 3))
    (tSeq (tAsg (tOp (rI (fun _ j => j ≠ 0) fun i j => .int (i.fmod j)) (tCB (fun xs H Q => (∃ i, xs = [.int i] ∧ Q (.int i) H) ∨ ∃ k, xs = [.bl k] ∧ Q (.int (if k then 1 else 0)) H) (tCons (tOp (rI0 fun i j => .int (i + j)) (tOp (rI CMul fun i j => .int (i * j)) (tVar 3) (tVar 3)) (tDGet (tVar 0) (tC (.str "mixed")))) tNil)) (tC (.int 2147483629))) (gName 3))
    (tRet (tOp (rI (fun _ j => j ≠ 0) fun i j => .int (i.fmod j)) (tCB (fun xs H Q => (∃ i, xs = [.int i] ∧ Q (.int i) H) ∨ ∃ k, xs = [.bl k] ∧ Q (.int (if k then 1 else 0)) H) (tCons (tOp (rI CDivN fun i j => .int (i.fdiv j)) (tVar 3) (tC (.int 64))) tNil)) (tVar 1)))))))
    { nx := fun _ H' => Q .non H', rt := Q } [some (.ref p), some (.int n), none, none] H3 := by
    refine ⟨_, rfl, p, _, rfl, dget_bag b3, (by show 0 ≤ sizeLine; decide), fun z nz => ?_⟩
    have sz : Same H3 (upd H3 z (.lst [])) := new_same _ nz
    refine ne_nil (sz _ _ b3.l) upd_same ⟨_, rfl, ?_⟩
    have f4 := f3.trans (Fz.of sz)
    have b4 := b3.same sz
    revert f4 b4
    generalize upd H3 z (.lst []) = H4
    intro f4 b4
    by_cases c : gs = []
    · rw [decide_eq_false (fun z => z c)]
      refine iteF ?_
      have fm : ∀ (i j : Int), 0 < j → j < 4294967296 → (-(2 ^ 64) < i.fmod j ∧ i.fmod j < 2 ^ 64) := fun i j h1 h2 => by
        have a1 := Int.fmod_nonneg_of_pos i h1
        have a2 := Int.fmod_lt_of_pos i h1
        omega
      refine ⟨_, rfl, p, _, rfl, dget_turn b4, _, _, rfl, rfl, _, rfl, p, _, rfl, DPut.k (k := .inr "turn") b4.d (by show 3 < sizeLine; decide), ?_⟩
      rw [bag_put]
      have b5 : BagV (upd H4 p (.dK (bagK g m0 (t0 + 1)))) p g m0 (t0 + 1) gs := ⟨upd_same, by rw [upd_ne (Ne.symm hpg)]; exact b4.l⟩
      have f5 : Fz [p, g] H (upd H4 p (.dK (bagK g m0 (t0 + 1)))) := f4.trans (Fz.chg b4.d rfl (by simp))
      revert b5 f5
      generalize upd H4 p (.dK (bagK g m0 (t0 + 1))) = H5
      intro b5 f5
      refine ⟨_, rfl, p, _, rfl, dget_mixed b5, _, rfl, p, _, rfl, dget_turn b5, _, _, rfl, rfl, cm _ ⟨by decide, by decide⟩ _, _, _, rfl, rfl, .inl ⟨_, rfl, _, _, rfl, rfl, (by show (_ : Int) ≠ 0; decide), ?_⟩⟩
      refine ⟨_, rfl, _, rfl, _, _, rfl, rfl, cm _ (fm _ _ (by decide) (by decide)) _, _, rfl, p, _, rfl, dget_turn b5, _, _, rfl, rfl, cm _ ⟨by decide, by decide⟩ _, _, _, rfl, rfl, _, _, rfl, rfl, .inl ⟨_, rfl, _, _, rfl, rfl, (by show (_ : Int) ≠ 0; decide), ?_⟩⟩
      refine ⟨_, rfl, _, rfl, _, _, rfl, rfl, cm _ (fm _ _ (by decide) (by decide)) _, _, rfl, p, _, rfl, dget_mixed b5, _, _, rfl, rfl, .inl ⟨_, rfl, _, _, rfl, rfl, (by show (_ : Int) ≠ 0; decide), ?_⟩⟩
      refine ⟨_, rfl, _, 64, rfl, rfl, ⟨by decide, by decide⟩, .inl ⟨_, rfl, _, rfl, _, n, rfl, rfl, (by omega), ?_⟩⟩
      exact q _ H5 (Int.fmod_nonneg_of_pos _ hn) (Int.fmod_lt_of_pos _ hn) f5 ⟨_, _, _, b5⟩
    · rw [decide_eq_true c]
      refine iteT ?_
      obtain ⟨gs', x, rfl⟩ := last_of c
      have eg : (gs' ++ [x]).map V.int = gs'.map V.int ++ [V.int x] := by rw [List.map_append]; rfl
      have hl4 := b4.l
      rw [eg] at hl4
      refine ⟨_, rfl, p, _, rfl, dget_bag b4, 1, rfl, g, _, _, _, rfl, rfl, SqL.of hl4, atI_last _ _, _, rfl, x, n, rfl, rfl, (by omega), ?_⟩
      refine ⟨_, rfl, p, _, rfl, dget_bag b4, 1, rfl, g, _, _, _, rfl, rfl, SqL.of hl4, atI_last _ _, _, rfl, x, n, rfl, rfl, ⟨by omega, by omega⟩, ?_⟩
      refine ⟨_, rfl, p, _, rfl, dget_bag b4, 1, rfl, g, _, _, gs'.length, rfl, rfl, hl4, ?_, ?_⟩
      · unfold ixN
        rw [List.length_append, List.length_map, List.length_singleton]
        rw [if_neg (by decide), if_pos (by omega)]
        congr 1
        omega
      · refine ⟨_, rfl, .inl ⟨_, rfl, ?_⟩⟩
        refine q _ _ (Int.fmod_nonneg_of_pos _ hn) (Int.fmod_lt_of_pos _ hn) (f4.trans (Fz.chg hl4 rfl (by simp))) ⟨m0, t0, gs' ++ [x.fdiv n], ?_, ?_⟩
        · rw [upd_ne hpg]
          exact b4.d
        · rw [upd_same, List.set_append_right _ _ (by rw [List.length_map]; exact Nat.le_refl _), List.length_map, Nat.sub_self, List.map_append]
          rfl
  by_cases c : gs = []
  · rw [decide_eq_false (fun z => z c)]
    refine iteF ?_
    exact iteF behind
  · rw [decide_eq_true c]
    refine iteT ?_
    obtain ⟨gs', x, rfl⟩ := last_of c
    have eg : (gs' ++ [x]).map V.int = gs'.map V.int ++ [V.int x] := by rw [List.map_append]; rfl
    have hl3 := b3.l
    rw [eg] at hl3
    refine ⟨_, rfl, p, _, rfl, dget_bag b3, 1, rfl, g, _, _, _, rfl, rfl, SqL.of hl3, atI_last _ _, rfl, _, rfl, ?_⟩
    refine ite2 (fun c2 => ?_) (fun c2 => behind)
    refine ⟨fun σ' H' => ∃ gs, σ' = [some (.ref p), some (.int n), none, none] ∧ Fz [p, g] H H' ∧ BagV H' p g m0 t0 gs ∧ gs.length = gs'.length, ?_, ?_⟩
    · rintro σ' H' ⟨gs, e1, e2, e3, e4⟩
      refine ⟨gs.length, ?_, gs, e1, e2, e3, rfl⟩
      rw [← lk, List.length_append, List.length_singleton, e4]
      omega
    · refine ⟨_, rfl, p, _, rfl, dget_bag b3, .inl ⟨rfl, _, SqL.of hl3⟩, g, _, V.int x, rfl, rfl, hl3, ?_, ?_⟩
      · rw [List.length_append, List.length_singleton, Nat.add_sub_cancel, List.getElem?_append_right (Nat.le_refl _), Nat.sub_self]
        rfl
      · rw [List.dropLast_concat]
        refine ⟨gs', rfl, f3.trans (Fz.chg hl3 rfl (by simp)), ⟨?_, upd_same⟩, rfl⟩
        rw [upd_ne hpg]
        exact b3.d
theorem len_ldraw {K : PySem.W.Frag} : ∀ vs H Q E, sp_ldraw K vs H Q E → vs.length = ["_law_bag_here", "_law_many"].length := fun vs H Q E h => by
  obtain ⟨p, g, n, rfl, _⟩ := h
  rfl
end K19

namespace K19
open PySem PySem.Spec PyProof.Rows L2

/-! ### _law_pick -/
def sp_lpick (K : PySem.W.Frag) : Sp := fun vs H Q _ => ∃ (p g a : Addr) (xs : List V), vs = [.ref p, .ref a] ∧ Bag H p g ∧ SqL K H a xs ∧ Off p g a ∧ xs ≠ [] ∧ xs.length < 1073741824 ∧
  ∀ (i : Nat) (v : V) (H' : Hp), xs[i]? = some v → Fz [p, g] H H' → Bag H' p g → Q v H'
theorem pos_len {α : Type} {xs : List α} (h : xs ≠ []) : 0 < xs.length := List.length_pos_iff.mpr h
theorem at_toNat {α : Type} {xs : List α} {d : Int} (h0 : 0 ≤ d) (h1 : d < xs.length) : ∃ v, xs[d.toNat]? = some v ∧ atI xs d = some v := by
  obtain ⟨k, rfl⟩ := Int.eq_ofNat_of_zero_le h0
  have h : k < xs.length := by omega
  exact ⟨xs[k], List.getElem?_eq_getElem h, atI_nat (List.getElem?_eq_getElem h)⟩
theorem law_lpick {K : PySem.W.Frag} {w : World} (vs : List V) (H : Hp) (Q : VK) (E : XK) (h : sp_lpick K vs H Q E) : t_lpick K w (sp_ldraw K) { nx := fun _ H' => Q .non H', rt := Q } (start N_lpick vs) H := by
  obtain ⟨p, g, a, xs, rfl, hb, ha, off, ne, hl, q⟩ := h
  refine ⟨_, rfl, _, rfl, _, rfl, a, xs, rfl, .inl ha, p, g, xs.length, rfl, hb, ?_, ?_, fun d H1 h0 h1 f1 b1 => ?_⟩
  · have := pos_len ne
    omega
  · omega
  · obtain ⟨v, hv, hat⟩ := at_toNat h0 h1
    exact ⟨a, xs, d, v, rfl, rfl, f1.lst off ha, hat, q _ v H1 hv f1 b1⟩
theorem len_lpick {K : PySem.W.Frag} : ∀ vs H Q E, sp_lpick K vs H Q E → vs.length = ["_law_bag_here", "_law_items"].length := fun vs H Q E h => by
  obtain ⟨p, g, a, xs, rfl, _⟩ := h
  rfl

/-! ### _law_mixed -/
def sp_lmixed (K : PySem.W.Frag) : Sp := fun vs H Q _ => ∃ (p g a : Addr) (row : List Int), vs = [.ref p, .ref a] ∧ Bag H p g ∧ SqL K H a (row.map V.int) ∧ row.length ≤ 1000 ∧
  ∀ (r : Addr) (l : List Int) (H' : Hp), l.Perm row → Fz [p, g] H H' → Bag H' p g → H r = none → H' r = some (.lst (l.map V.int)) → Q (.ref r) H'
theorem off_ne {p g a : Addr} (h : Off p g a) : a ≠ p ∧ a ≠ g := by
  unfold Off at h
  simp only [List.mem_cons, List.not_mem_nil, or_false, not_or] at h
  exact h
theorem Bag.keep {H : Hp} {p g D : Addr} {o : HO} (b : Bag H p g) (h : Off p g D) : Bag (upd H D o) p g := by
  obtain ⟨m, t, gs, b⟩ := b
  obtain ⟨h1, h2⟩ := off_ne h
  exact ⟨m, t, gs, by rw [upd_ne (Ne.symm h1)]; exact b.d, by rw [upd_ne (Ne.symm h2)]; exact b.l⟩
theorem erase_map {α β : Type} (f : α → β) : ∀ (l : List α) (k : Nat), (l.map f).eraseIdx k = (l.eraseIdx k).map f
  | [], _ => rfl
  | x :: l, 0 => rfl
  | x :: l, k + 1 => by
    rw [List.map_cons, List.eraseIdx_cons_succ, List.eraseIdx_cons_succ, List.map_cons, erase_map f l k]
theorem erase_perm : ∀ {l : List Int} {k : Nat} (h : k < l.length), (l[k] :: l.eraseIdx k).Perm l
  | x :: l, 0, _ => List.Perm.refl _
  | x :: l, k + 1, h => by
    have ih := erase_perm (l := l) (k := k) (by simpa using h)
    rw [List.getElem_cons_succ, List.eraseIdx_cons_succ]
    exact (List.Perm.swap _ _ _).trans (ih.cons x)
theorem pop_perm {l : List Int} {k : Nat} {x : Int} (h : l[k]? = some x) (f : List Int) : (f ++ [x] ++ l.eraseIdx k).Perm (f ++ l) := by
  obtain ⟨hk, e⟩ := List.getElem?_eq_some_iff.mp h
  rw [List.append_assoc]
  refine List.Perm.append_left f ?_
  rw [← e]
  exact erase_perm hk
theorem law_lmixed {K : PySem.W.Frag} {w : World} (vs : List V) (H : Hp) (Q : VK) (E : XK) (h : sp_lmixed K vs H Q E) : t_lmixed K w (sp_ldraw K) { nx := fun _ H' => Q .non H', rt := Q } (start N_lmixed vs) H := by
  obtain ⟨p, g, a, row, rfl, hb, ha, hl, q⟩ := h
  refine ⟨_, rfl, a, _, rfl, .inl ha, fun r nr => ⟨(by show 0 ≤ sizeLine; decide), fun o no => ⟨_, _, rfl, ?_⟩⟩⟩
  have s1 : Same H (upd H r (.lst (row.map V.int))) := new_same _ nr
  have er := upd_same (H := H) (a := r) (o := .lst (row.map V.int))
  revert s1 er no
  generalize upd H r (.lst (row.map V.int)) = H1
  intro no s1 er
  have s2 : Same H1 (upd H1 o (.lst [])) := new_same _ no
  have eo := upd_same (H := H1) (a := o) (o := .lst [])
  have no0 : H o = none := s1.free no
  have hro : r ≠ o := ne_of_none er no
  revert s2 eo
  generalize upd H1 o (.lst []) = H2
  intro s2 eo
  have offr := hb.off nr
  have offo := hb.off no0
  refine ⟨fun m σ H3 => ∃ R F : List Int, σ = [some (.ref p), some (.ref a), some (.ref r), some (.ref o)] ∧ Fz [p, g] H H3 ∧ Bag H3 p g ∧ H3 r = some (.lst (R.map V.int)) ∧ H3 o = some (.lst (F.map V.int)) ∧ (F ++ R).Perm row ∧ R.length = m,
    ⟨_, row, [], rfl, Fz.of (s1.trans s2), hb.same (s1.trans s2), s2 _ _ er, eo, List.Perm.refl _, rfl⟩, ?_⟩
  rintro m σ H3 ⟨R, F, rfl, f3, b3, e3, o3, pm, lR⟩
  have hlen : F.length + R.length = row.length := by
    have := pm.length_eq
    rw [List.length_append] at this
    exact this
  refine ⟨_, rfl, (by show 0 ≤ sizeLine; decide), fun z nz => ?_⟩
  have sz : Same H3 (upd H3 z (.lst [])) := new_same _ nz
  refine ne_nil (sz _ _ e3) upd_same ⟨_, rfl, ?_⟩
  have f4 := f3.trans (Fz.of sz)
  have b4 := b3.same sz
  have e4 := sz _ _ e3
  have o4 := sz _ _ o3
  revert f4 b4 e4 o4
  generalize upd H3 z (.lst []) = H4
  intro f4 b4 e4 o4
  by_cases c : R = []
  · rw [decide_eq_false (fun z => z c)]
    refine iteF ⟨_, rfl, ?_⟩
    subst c
    rw [List.append_nil] at pm
    exact q o F H4 pm f4 b4 no0 o4
  · rw [decide_eq_true c]
    refine iteT ?_
    have hp := pos_len c
    refine ⟨fun σ' H' => ∃ R' F' : List Int, σ' = [some (.ref p), some (.ref a), some (.ref r), some (.ref o)] ∧ Fz [p, g] H H' ∧ Bag H' p g ∧ H' r = some (.lst (R'.map V.int)) ∧ H' o = some (.lst (F'.map V.int)) ∧ (F' ++ R').Perm row ∧ R'.length + 1 = R.length,
      fun σ' H' ⟨R', F', h1, h2, h3, h4, h5, h6, h7⟩ => ⟨R'.length, by omega, R', F', h1, h2, h3, h4, h5, h6, rfl⟩, ?_⟩
    refine ⟨_, rfl, .inl ⟨rfl, _, SqL.of o4⟩, _, rfl, .inl ⟨rfl, _, SqL.of e4⟩, _, rfl, _, rfl, r, _, rfl, .inl (SqL.of e4), p, g, ((R.map V.int).length : Int), rfl, b4, ?_, ?_, fun d H5 h0 h1 f5 b5 => ?_⟩
    · rw [List.length_map]
      omega
    · rw [List.length_map]
      omega
    rw [List.length_map] at h1
    have e5 := f5 _ _ e4 (.inl offr)
    have o5 := f5 _ _ o4 (.inl offo)
    have hk : d.toNat < R.length := by omega
    have gk : R[d.toNat]? = some R[d.toNat] := List.getElem?_eq_getElem hk
    refine ⟨r, _, d, d.toNat, .int R[d.toNat], rfl, rfl, e5, by omega, by omega, ?_, ?_, ?_⟩
    · exact seqIndex_of h0 (by rw [List.length_map]; exact h1)
    · rw [List.getElem?_map, gk]
      rfl
    rw [erase_map]
    refine ⟨o, _, _, rfl, rfl, ((upd_ne (Ne.symm hro)).trans o5), ?_, ?_⟩
    · rw [List.length_map]
      exact small1000 (by omega)
    refine ⟨R.eraseIdx d.toNat, F ++ [R[d.toNat]], rfl, (f4.trans f5).grow nr |>.grow no0, (b5.keep offr).keep offo, ?_, ?_, (pop_perm gk F).trans pm, ?_⟩
    · rw [upd_ne hro, upd_same]
    · rw [upd_same, List.map_append]
      rfl
    · rw [List.length_eraseIdx_of_lt hk]
      omega
theorem len_lmixed {K : PySem.W.Frag} : ∀ vs H Q E, sp_lmixed K vs H Q E → vs.length = ["_law_bag_here", "_law_items"].length := fun vs H Q E h => by
  obtain ⟨p, g, a, xs, rfl, _⟩ := h
  rfl

/-! ### _law_buttons -/
def rg (n : Nat) : List Int := (List.range n).map fun i => ((i : Nat) : Int)
theorem rgV_rg (n : Int) : rgV 0 n = (rg n.toNat).map V.int := by
  unfold rgV rg
  rw [List.map_map, Int.sub_zero]
  congr 1
  funext i
  show V.int (0 + (i : Int)) = V.int (i : Int)
  rw [Int.zero_add]
theorem rg_nodup (n : Nat) : (rg n).Nodup := by
  unfold rg
  exact List.Pairwise.map _ (fun a b h => fun e => h (by omega)) List.nodup_range
theorem rg_mem {n : Nat} {x : Int} (h : x ∈ rg n) : 0 ≤ x ∧ x < n := by
  unfold rg at h
  obtain ⟨i, hi, rfl⟩ := List.mem_map.mp h
  have := List.mem_range.mp hi
  omega
theorem rg_length (n : Nat) : (rg n).length = n := by unfold rg; rw [List.length_map, List.length_range]
theorem asc_lt {l : List Int} (h : l.Pairwise (· ≤ ·)) (n : l.Nodup) : l.Pairwise (· < ·) := by
  have := h.and n
  exact this.imp fun {a b} q => by
    have h1 := q.1
    have h2 := q.2
    omega
def sp_lbuttons (K : PySem.W.Frag) : Sp := fun vs H Q _ => ∃ (p g : Addr) (many : Int), vs = [.ref p, .int many] ∧ Bag H p g ∧ 1 ≤ many ∧ many ≤ 60 ∧
  ∀ (r : Addr) (row : List Int) (H' : Hp), Fz [p, g] H H' → Bag H' p g → H r = none → H' r = some (.lst (row.map V.int)) → row.Pairwise (· < ·) → row.length = many.toNat → (∀ x ∈ row, 0 ≤ x ∧ x ≤ 99) → Q (.ref r) H'
theorem law_lbuttons {K : PySem.W.Frag} {w : World} (vs : List V) (H : Hp) (Q : VK) (E : XK) (h : sp_lbuttons K vs H Q E) : t_lbuttons K w (sp_ldraw K) { nx := fun _ H' => Q .non H', rt := Q } (start N_lbuttons vs) H := by
  obtain ⟨p, g, many, rfl, hb, hm1, hm2, q⟩ := h
  refine ⟨_, rfl, p, g, 4, rfl, hb, by decide, by decide, fun d H1 _ _ f1 b1 => ⟨rfl, _, rfl, ?_⟩⟩
  have main : ∀ N : Int, many ≤ N → N ≤ 100 → RgOk 0 N ∧ ∀ r, H1 r = none → tLst tNil [some (.ref p), some (.int many), none, none, none] (upd H1 r (.lst (rgV 0 N))) fun v H2 => ∃ u y, [V.ref r, v] = [u, y] ∧
      tSeq (tFor (iRng1 (tCons (tVar 1) tNil)) (gName 4) (tDrop (tBM K "list" rAppend (tVar 3) (tCons (tBM K "list" rPopAt (tVar 2) (tCons (tKn (sp_ldraw K) (tCons (tVar 0) (tCons (tCB (fun xs H Q => ∃ p ys, xs = [.ref p] ∧ (SqL K H p ys ∨ SqT K H p ys) ∧ Q (.int ys.length) H) (tCons (tVar 2) tNil)) tNil))) tNil)) tNil))))
      (tRet (tCB (rSortedI K) (tCons (tVar 3) tNil))) { nx := fun _ H' => Q .non H', rt := Q } (([some (.ref p), some (.int many), none, none, none].set 2 (some u)).set 3 (some y)) H2 := by
    intro N hN1 hN2
    refine ⟨RgOk.of_le (by decide) (by omega) (by decide) (by omega), fun r nr => ⟨(by show 0 ≤ sizeLine; decide), fun o no => ⟨_, _, rfl, ?_⟩⟩⟩
    rw [rgV_rg] at no ⊢
    have s1 : Same H1 (upd H1 r (.lst ((rg N.toNat).map V.int))) := new_same _ nr
    have er := upd_same (H := H1) (a := r) (o := .lst ((rg N.toNat).map V.int))
    revert s1 er no
    generalize upd H1 r (.lst ((rg N.toNat).map V.int)) = H2
    intro no s1 er
    have s2 : Same H2 (upd H2 o (.lst [])) := new_same _ no
    have eo := upd_same (H := H2) (a := o) (o := .lst [])
    have no1 : H1 o = none := s1.free no
    have hro : r ≠ o := ne_of_none er no
    revert s2 eo
    generalize upd H2 o (.lst []) = H3
    intro s2 eo
    have offr := b1.off nr
    have offo := b1.off no1
    have no0 : H o = none := f1.unset no1 offo
    refine ⟨_, rfl, many, rfl, by omega, by omega, for_range
      (fun i σ H4 => ∃ (R F : List Int) (x4 : Option V), σ = [some (.ref p), some (.int many), some (.ref r), some (.ref o), x4] ∧ Fz [p, g] H1 H4 ∧ Bag H4 p g ∧ H4 r = some (.lst (R.map V.int)) ∧ H4 o = some (.lst (F.map V.int)) ∧ (F ++ R).Perm (rg N.toNat) ∧ F.length = i)
      ⟨rg N.toNat, [], none, rfl, Fz.of (s1.trans s2), b1.same (s1.trans s2), s2 _ _ er, eo, List.Perm.refl _, rfl⟩ ?_ ?_⟩
    · rintro i σ H4 hi ⟨R, F, x4, rfl, f4, b4, e4, o4, pm, lF⟩
      have hlen : F.length + R.length = N.toNat := by
        have := pm.length_eq
        rw [List.length_append, rg_length] at this
        exact this
      refine ⟨_, rfl, .inl ⟨rfl, _, SqL.of o4⟩, _, rfl, .inl ⟨rfl, _, SqL.of e4⟩, _, rfl, _, rfl, r, _, rfl, .inl (SqL.of e4), p, g, ((R.map V.int).length : Int), rfl, b4, ?_, ?_, fun d H5 h0 h1 f5 b5 => ?_⟩
      · rw [List.length_map]
        omega
      · rw [List.length_map]
        omega
      rw [List.length_map] at h1
      have e5 := f5 _ _ e4 (.inl offr)
      have o5 := f5 _ _ o4 (.inl offo)
      have hk : d.toNat < R.length := by omega
      have gk : R[d.toNat]? = some R[d.toNat] := List.getElem?_eq_getElem hk
      refine ⟨r, _, d, d.toNat, .int R[d.toNat], rfl, rfl, e5, by omega, by omega, ?_, ?_, ?_⟩
      · exact seqIndex_of h0 (by rw [List.length_map]; exact h1)
      · rw [List.getElem?_map, gk]
        rfl
      rw [erase_map]
      refine ⟨o, _, _, rfl, rfl, ((upd_ne (Ne.symm hro)).trans o5), ?_, ?_⟩
      · rw [List.length_map]
        exact small1000 (by omega)
      refine ⟨R.eraseIdx d.toNat, F ++ [R[d.toNat]], _, rfl, (f4.trans f5).grow nr |>.grow no1, (b5.keep offr).keep offo, ?_, ?_, (pop_perm gk F).trans pm, ?_⟩
      · rw [upd_ne hro, upd_same]
      · rw [upd_same, List.map_append]
        rfl
      · rw [List.length_append, List.length_singleton, lF]
    · rintro σ H4 ⟨R, F, x4, rfl, f4, b4, e4, o4, pm, lF⟩
      refine ⟨_, rfl, o, F, rfl, SqL.of o4, fun ns' c perm asc nc => ?_⟩
      have nd : (F ++ R).Nodup := pm.nodup_iff.mpr (rg_nodup _)
      have ndF := (List.nodup_append.mp nd).1
      have nc1 : H1 c = none := f4.unset nc (b4.off nc)
      refine q c ns' _ (f1.trans (f4.trans (Fz.new nc))) (b4.same (new_same _ nc)) (f1.unset nc1 (b1.off nc1)) upd_same (asc_lt asc (perm.nodup_iff.mpr ndF)) ?_ ?_
      · rw [perm.length_eq, lF]
      · intro x hx
        have := rg_mem (pm.mem_iff.mp (List.mem_append_left R (perm.mem_iff.mp hx)))
        omega
  by_cases c : d = 0
  · have e : decide (V.int d = V.int 0) = true := decide_eq_true (by rw [c])
    rw [e]
    exact iteT ⟨100, rfl, main 100 (by omega) (by decide)⟩
  · have e : decide (V.int d = V.int 0) = false := decide_eq_false fun z => c (V.int.inj z)
    rw [e]
    exact iteF ⟨_, rfl, _, _, rfl, rfl, _, rfl, main (many + 2) (by omega) (by omega)⟩
theorem len_lbuttons {K : PySem.W.Frag} : ∀ vs H Q E, sp_lbuttons K vs H Q E → vs.length = ["_law_bag_here", "_law_many"].length := fun vs H Q E h => by
  obtain ⟨p, g, a, rfl, _⟩ := h
  rfl

/-! ### _law_lot -/
def sp_llot (K : PySem.W.Frag) : Sp := fun vs H Q _ => ∃ (p g a : Addr) (row : List Int) (n : Int), vs = [.ref p, .ref a, .int n] ∧ Bag H p g ∧ SqL K H a (row.map V.int) ∧ row.length ≤ 1000 ∧ 0 < n ∧ n < 1073741824 ∧
  ∀ (r : Addr) (l : List Int) (H' : Hp), Fz [p, g] H H' → Bag H' p g → l.length ≤ row.length → H r = none → H' r = some (.tup (l.map V.int)) → Q (.ref r) H'
theorem law_llot {K : PySem.W.Frag} {w : World} (vs : List V) (H : Hp) (Q : VK) (E : XK) (h : sp_llot K vs H Q E) : t_llot K w (sp_ldraw K) { nx := fun _ H' => Q .non H', rt := Q } (start N_llot vs) H := by
  obtain ⟨p, g, a, row, n, rfl, hb, ha, hl, hn1, hn2, q⟩ := h
  refine ⟨_, rfl, a, row, rfl, ha, fun ns c perm asc nc => ?_⟩
  have s1 : Same H (upd H c (.lst (ns.map V.int))) := new_same _ nc
  have ec := upd_same (H := H) (a := c) (o := .lst (ns.map V.int))
  have lns := perm.length_eq
  revert s1 ec
  generalize upd H c (.lst (ns.map V.int)) = H1
  intro s1 ec
  have offc := hb.off nc
  have b1 := hb.same s1
  refine ⟨c, rfl, ⟨_, SqL.of ec⟩, fun D nD => lc_list (K := K) (a := c) (xs := ns.map V.int)
    (fun i H2 => Fz [p, g] H1 H2 ∧ Bag H2 p g ∧ ∃ l : List Int, H2 D = some (.lst (l.map V.int)) ∧ l.length ≤ i) ⟨Fz.new nD, b1.same (new_same _ nD), [], upd_same, Nat.le_refl _⟩ (fun i H2 _ hP => hP.1.lst offc (SqL.of ec)) ?_ ?_⟩
  · rintro i v H2 hv ⟨f2, b2, l, e2, ll⟩
    have hi := (List.getElem?_eq_some_iff.mp hv).1
    rw [List.length_map] at hi
    obtain ⟨x, hx, rfl⟩ := ints_get hv
    refine ⟨rfl, _, rfl, _, rfl, p, g, n, rfl, b2, hn1, hn2, fun d H3 _ _ f3 b3 => ⟨_, _, rfl, rfl, _, rfl, ?_⟩⟩
    have e3 := f3 _ _ e2 (.inl (b1.off nD))
    refine ite2 (fun _ => ⟨_, rfl, _, e3, ?_, (f2.trans f3).grow nD, b3.keep (b1.off nD), l ++ [x], ?_, ?_⟩) (fun _ => ⟨f2.trans f3, b3, l, e3, by omega⟩)
    · rw [List.length_map]
      exact small1000 (by omega)
    · rw [upd_same, List.map_append]
      rfl
    · rw [List.length_append, List.length_singleton]
      omega
  · rintro H2 ⟨f2, b2, l, e2, ll⟩
    rw [List.length_map] at ll
    refine ⟨D, _, rfl, .inl ⟨SqL.of e2, fun r nr => ?_⟩⟩
    have f02 : Fz [p, g] H H2 := (Fz.of s1).trans f2
    exact q r l _ (f02.trans (Fz.new nr)) (b2.same (new_same _ nr)) (by omega) (f02.unset nr (b2.off nr)) upd_same
theorem len_llot {K : PySem.W.Frag} : ∀ vs H Q E, sp_llot K vs H Q E → vs.length = ["_law_bag_here", "_law_row", "_law_often"].length := fun vs H Q E h => by
  obtain ⟨p, g, a, row, n, rfl, _⟩ := h
  rfl
end K19

namespace K19
open PySem PySem.Spec PyProof.Rows L2

/-! ### _law_tree -/
theorem TrAll.snoc {K : PySem.W.Frag} {H : Hp} {t : Tr} {v : V} (h : TrAt K H t v) : ∀ (ts : List Tr) (xs : List V), TrAll K H ts xs → TrAll K H (ts ++ [t]) (xs ++ [v])
  | [], xs, e => by
    simp only [TrAll] at e
    subst e
    simp only [List.nil_append, TrAll]
    exact ⟨v, [], rfl, h, rfl⟩
  | u :: ts, xs, e => by
    simp only [TrAll] at e
    obtain ⟨y, ys, rfl, e2, e3⟩ := e
    simp only [List.cons_append, TrAll]
    exact ⟨y, ys ++ [v], rfl, e2, TrAll.snoc h ts ys e3⟩
theorem leaf_all {K : PySem.W.Frag} {H : Hp} : ∀ row : List Int, TrAll K H (row.map Tr.leaf) (row.map V.int)
  | [] => by simp [TrAll]
  | b :: row => by
    simp only [List.map_cons, TrAll, TrAt]
    exact ⟨_, _, rfl, rfl, leaf_all row⟩
theorem leaf_leaves : ∀ row : List Int, Tr.leavesAll (row.map Tr.leaf) = row
  | [] => by simp [Tr.leavesAll]
  | b :: row => by
    simp only [List.map_cons, Tr.leavesAll, Tr.leaves, leaf_leaves row]
    rfl
theorem leaf_depth : ∀ row : List Int, Tr.depthAll (row.map Tr.leaf) = 0
  | [] => by simp [Tr.depthAll]
  | b :: row => by
    simp only [List.map_cons, Tr.depthAll, Tr.depth, leaf_depth row]
    rfl
theorem leaf_wf : ∀ row : List Int, (∀ x ∈ row, 0 ≤ x ∧ x ≤ 99) → Tr.wfAll (row.map Tr.leaf)
  | [], _ => by simp [Tr.wfAll]
  | b :: row, h => by
    simp only [List.map_cons, Tr.wfAll, Tr.wf]
    exact ⟨h b List.mem_cons_self, leaf_wf row fun x hx => h x (List.mem_cons_of_mem _ hx)⟩
theorem wfAll_snoc {t : Tr} (h : t.wf) : ∀ ts : List Tr, Tr.wfAll ts → Tr.wfAll (ts ++ [t])
  | [], _ => by simp only [List.nil_append, Tr.wfAll]; exact ⟨h, trivial⟩
  | u :: ts, e => by
    simp only [Tr.wfAll] at e
    simp only [List.cons_append, Tr.wfAll]
    exact ⟨e.1, wfAll_snoc h ts e.2⟩
theorem depth_snoc {t : Tr} {m : Nat} (h : t.depth ≤ m) : ∀ ts : List Tr, Tr.depthAll ts ≤ m → Tr.depthAll (ts ++ [t]) ≤ m
  | [], _ => by
    simp only [List.nil_append, Tr.depthAll]
    omega
  | u :: ts, e => by
    simp only [Tr.depthAll] at e
    simp only [List.cons_append, Tr.depthAll]
    have := depth_snoc h ts (by omega)
    omega
def sp_ltree (K : PySem.W.Frag) (n : Nat) : Sp := fun vs H Q _ => ∃ (p g a : Addr) (row : List Int) (deep : Nat), vs = [.ref p, .ref a, .int deep] ∧ Bag H p g ∧ SqL K H a (row.map V.int) ∧ Off p g a ∧ row ≠ [] ∧ row.length ≤ 60 ∧ (∀ x ∈ row, 0 ≤ x ∧ x ≤ 99) ∧ deep < n ∧
  ∀ (t : Tr) (v : V) (H' : Hp), t.leaves = row → t.wf → t.depth ≤ deep + 1 → TrAt K H' t v → Fz [p, g] H H' → Bag H' p g → Q v H'
set_option maxHeartbeats 16000000 in
theorem law_ltree {K : PySem.W.Frag} {w : World} {n : Nat} (vs : List V) (H : Hp) (Q : VK) (E : XK) (h : sp_ltree K (n + 1) vs H Q E) : t_ltree K w (sp_ldraw K) (sp_lpick K) (sp_ltree K n) { nx := fun _ H' => Q .non H', rt := Q } (start N_ltree vs) H := by
  obtain ⟨p, g, a, row, deep, rfl, hb, ha, off, ne, hl, hbt, hd, q⟩ := h
  have hp := pos_len ne
  -- the row itself
  have ret0 : ∀ H1 : Hp, Fz [p, g] H H1 → Bag H1 p g → tRet (tIf (tTest (tOp rEq (tCB (fun xs H Q => ∃ p ys, xs = [.ref p] ∧ (SqL K H p ys ∨ SqT K H p ys) ∧ Q (.int ys.length) H) (tCons (tVar 1) tNil)) (tC (.int 1)))) (tOp (rIxL K) (tVar 1) (tC (.int 0))) (tTup (tCons (tOp (rI0 fun i j => .int (i + j)) (tC (.int 1)) (tKn (sp_ldraw K) (tCons (tVar 0) (tCons (tCB (fun xs H Q => ∃ p ys, xs = [.ref p] ∧ (SqL K H p ys ∨ SqT K H p ys) ∧ Q (.int ys.length) H) (tCons (tVar 1) tNil)) tNil)))) (tCons (tCB (fun xs H Q => ∃ p ys, xs = [.ref p] ∧ ((SqL K H p ys ∧ ∀ l, H l = none → Q (.ref l) (upd H l (.tup ys))) ∨ (SqT K H p ys ∧ Q (.ref p) H))) (tCons (tVar 1) tNil)) tNil))))
      { nx := fun _ H' => Q .non H', rt := Q } [some (.ref p), some (.ref a), some (.int deep), none, none, none, none, none] H1 := by
    intro H1 f1 b1
    have ha1 := f1.lst off ha
    refine ⟨_, rfl, a, _, rfl, .inl ha1, rfl, _, rfl, ?_⟩
    refine ite2 (fun c => ?_) (fun c => ?_)
    · have c' := V.int.inj (of_decide_eq_true c)
      rw [List.length_map] at c'
      have e1 : row.length = 1 := by omega
      obtain ⟨b, rfl⟩ := List.length_eq_one_iff.mp e1
      refine ⟨_, rfl, a, _, 0, .int b, rfl, rfl, ha1, rfl, ?_⟩
      refine q (.leaf b) _ H1 (by simp [Tr.leaves]) ?_ (by simp [Tr.depth]) (by simp [TrAt]) f1 b1
      simp only [Tr.wf]
      exact hbt b List.mem_cons_self
    · refine ⟨_, rfl, _, rfl, a, _, rfl, .inl ha1, p, g, ((row.map V.int).length : Int), rfl, b1, ?_, ?_, fun d H2 h0 h1 f2 b2 => ?_⟩
      · rw [List.length_map]
        omega
      · rw [List.length_map]
        omega
      rw [List.length_map] at h1
      refine ⟨1, d, rfl, rfl, _, rfl, a, _, rfl, .inl ⟨f2.lst off ha1, fun l nl => ⟨(by show 2 ≤ sizeLine; decide), fun c nc => ?_⟩⟩⟩
      have s3 : Same H2 (upd H2 l (.tup (row.map V.int))) := new_same _ nl
      have el := upd_same (H := H2) (a := l) (o := .tup (row.map V.int))
      revert nc s3 el
      generalize upd H2 l (.tup (row.map V.int)) = H3
      intro nc s3 el
      have s4 : Same H3 (upd H3 c (.tup [.int (1 + d), .ref l])) := new_same _ nc
      refine q (.node (1 + d) (row.map Tr.leaf)) _ _ (by simp only [Tr.leaves]; exact leaf_leaves row) ?_ ?_ ?_ (f1.trans (f2.trans (Fz.of (s3.trans s4)))) (b2.same (s3.trans s4))
      · simp only [Tr.wf]
        refine ⟨by omega, ?_, leaf_wf row hbt⟩
        rw [List.length_map]
        omega
      · simp only [Tr.depth]
        rw [leaf_depth]
        omega
      · simp only [TrAt]
        exact ⟨c, l, _, rfl, SqT.inj upd_same, SqT.inj (s4 _ _ el), leaf_all row⟩
  -- what comes behind the first if
  have main : ∀ H1 : Hp, Fz [p, g] H H1 → Bag H1 p g → 0 < deep →
      (tSeq (tPar3 3 4 5 (tCons (tCB (fun xs H Q => ∃ i j, xs = [.int i, .int j] ∧ Q (.int (if j < i then j else i)) H) (tCons (tCB (fun xs H Q => ∃ p ys, xs = [.ref p] ∧ (SqL K H p ys ∨ SqT K H p ys) ∧ Q (.int ys.length) H) (tCons (tVar 1) tNil)) (tCons (tKn (sp_lpick K) (tCons (tVar 0) (tCons (tLst (tCons (tC (.int 1)) (tCons (tC (.int 2)) (tCons (tC (.int 2)) (tCons (tC (.int 3)) (tCons (tC (.int 3)) (tCons (tC (.int 4)) (tCons (tC (.int 5)) tNil)))))))) tNil))) tNil))) (tCons (tCB (fun xs H Q => ∃ p ys, xs = [.ref p] ∧ (SqL K H p ys ∨ SqT K H p ys) ∧ ∀ l, H l = none → Q (.ref l) (upd H l (.lst ys))) (tCons (tVar 1) tNil)) (tCons (tLst tNil) tNil))))
    (tSeq (tFor (iRng1 (tCons (tVar 3) tNil)) (gName 6) (tSeq (tAsg (tIf (tTest (tOp rEq (tVar 6) (tOp (rI0 fun i j => .int (i - j)) (tVar 3) (tC (.int 1))))) (tCB (fun xs H Q => ∃ p ys, xs = [.ref p] ∧ (SqL K H p ys ∨ SqT K H p ys) ∧ Q (.int ys.length) H) (tCons (tVar 4) tNil)) (tOp (rI0 fun i j => .int (i + j)) (tC (.int 1)) (tKn (sp_ldraw K) (tCons (tVar 0) (tCons (tOp (rI0 fun i j => .int (i + j)) (tOp (rI0 fun i j => .int (i + j)) (tOp (rI0 fun i j => .int (i - j)) (tCB (fun xs H Q => ∃ p ys, xs = [.ref p] ∧ (SqL K H p ys ∨ SqT K H p ys) ∧ Q (.int ys.length) H) (tCons (tVar 4) tNil)) (tVar 3)) (tVar 6)) (tC (.int 1))) tNil))))) (gName 7))
    (tSeq (tDrop (tBM K "list" rAppend (tVar 5) (tCons (tKn (sp_ltree K n) (tCons (tVar 0) (tCons (tSl (rSlL K) (tVar 4) tNoPart (tPart (tVar 7))) (tCons (tOp (rI0 fun i j => .int (i - j)) (tVar 2) (tC (.int 1))) tNil)))) tNil)))
    (tAsg (tSl (rSlL K) (tVar 4) (tPart (tVar 7)) tNoPart) (gName 4)))))
    (tRet (tTup (tCons (tOp (rI0 fun i j => .int (i + j)) (tC (.int 1)) (tKn (sp_ldraw K) (tCons (tVar 0) (tCons (tVar 3) tNil)))) (tCons (tCB (fun xs H Q => ∃ p ys, xs = [.ref p] ∧ ((SqL K H p ys ∧ ∀ l, H l = none → Q (.ref l) (upd H l (.tup ys))) ∨ (SqT K H p ys ∧ Q (.ref p) H))) (tCons (tVar 5) tNil)) tNil))))))
      { nx := fun _ H' => Q .non H', rt := Q } [some (.ref p), some (.ref a), some (.int deep), none, none, none, none, none] H1 := by
    intro H1 f1 b1 hdeep
    have ha1 := f1.lst off ha
    refine ⟨_, rfl, a, _, rfl, .inl ha1, _, rfl, (by show 7 ≤ sizeLine; decide), fun c nc => ?_⟩
    refine ⟨p, g, c, ([1, 2, 2, 3, 3, 4, 5] : List Int).map V.int, rfl, b1.same (new_same _ nc), SqL.of upd_same, b1.off nc, (by simp), (by decide), fun i v H2 hv f2 b2 => ?_⟩
    obtain ⟨j, hj, rfl⟩ := ints_get hv
    have hj1 : 1 ≤ j := by
      have := List.mem_of_getElem? hj
      simp at this
      omega
    have f12 := f1.trans ((Fz.new (ex := [p, g]) nc).trans f2)
    have ha2 := f12.lst off ha
    have mm : ∃ many : Nat, (if j < ((row.map V.int).length : Int) then j else ((row.map V.int).length : Int)) = (many : Int) ∧ 1 ≤ many ∧ many ≤ row.length := by
      rw [List.length_map]
      by_cases c : j < (row.length : Int)
      · rw [if_pos c]
        exact ⟨j.toNat, by omega, by omega, by omega⟩
      · rw [if_neg c]
        exact ⟨row.length, rfl, by omega, Nat.le_refl _⟩
    obtain ⟨many, em, hm1, hm2⟩ := mm
    refine ⟨_, _, rfl, ?_⟩
    rw [em]
    refine ⟨_, rfl, a, _, rfl, .inl ha2, fun r nr => ⟨(by show 0 ≤ sizeLine; decide), fun o no => ⟨_, _, _, rfl, ?_⟩⟩⟩
    have s3 : Same H2 (upd H2 r (.lst (row.map V.int))) := new_same _ nr
    have er := upd_same (H := H2) (a := r) (o := .lst (row.map V.int))
    revert no s3 er
    generalize upd H2 r (.lst (row.map V.int)) = H3
    intro no s3 er
    have s4 : Same H3 (upd H3 o (.lst [])) := new_same _ no
    have eo := upd_same (H := H3) (a := o) (o := .lst [])
    have no2 : H2 o = none := s3.free no
    have offo := b2.off no2
    have no0 : H o = none := f12.unset no2 offo
    have s24 := s3.trans s4
    refine ⟨_, rfl, (many : Int), rfl, by omega, by omega, for_range
      (fun i σ H4 => ∃ (rest : List Int) (c : Addr) (ts : List Tr) (xs : List V) (x6 x7 : Option V), σ = [some (.ref p), some (.ref a), some (.int deep), some (.int many), some (.ref c), some (.ref o), x6, x7] ∧ Fz [p, g] H H4 ∧ Bag H4 p g ∧ Off p g c ∧
        H4 c = some (.lst (rest.map V.int)) ∧ H4 o = some (.lst xs) ∧ c ≠ o ∧ TrAll K H4 ts xs ∧ Tr.leavesAll ts ++ rest = row ∧ ts.length = i ∧ many ≤ rest.length + i ∧ (i = many → rest = []) ∧ Tr.wfAll ts ∧ Tr.depthAll ts ≤ deep)
      ⟨row, r, [], [], none, none, rfl, f12.trans (Fz.of s24), b2.same s24, b2.off nr, s4 _ _ er, eo, ne_of_none er no, by simp [TrAll], by simp [Tr.leavesAll], rfl, by omega, fun e => by omega, by simp [Tr.wfAll], by simp [Tr.depthAll]⟩ ?_ ?_⟩
    · rintro i σ H4 hi ⟨rest, c, ts, xs, x6, x7, rfl, f4, b4, offc, ec, eo4, hco, tr, lv, lts, lr, _, wfa, dep⟩
      have hi' : i < many := hi
      have lrow : rest.length ≤ row.length := by
        rw [← lv, List.length_append]
        omega
      have lxs := TrAll.length ts xs tr
      have z0 : (0 : Int) + (i : Int) = (i : Int) := Int.zero_add _
      rw [z0]
      -- with the size known
      have rest_ : ∀ (s : Nat) (H5 : Hp), 1 ≤ s → s ≤ rest.length → many ≤ (rest.length - s) + (i + 1) → (i + 1 = many → s = rest.length) → Fz [p, g] H4 H5 → Bag H5 p g →
          (tSeq (tDrop (tBM K "list" rAppend (tVar 5) (tCons (tKn (sp_ltree K n) (tCons (tVar 0) (tCons (tSl (rSlL K) (tVar 4) tNoPart (tPart (tVar 7))) (tCons (tOp (rI0 fun i j => .int (i - j)) (tVar 2) (tC (.int 1))) tNil)))) tNil)))
            (tAsg (tSl (rSlL K) (tVar 4) (tPart (tVar 7)) tNoPart) (gName 4)))
            { nx := fun σ H4 => ∃ (rest : List Int) (c : Addr) (ts : List Tr) (xs : List V) (x6 x7 : Option V), σ = [some (.ref p), some (.ref a), some (.int deep), some (.int many), some (.ref c), some (.ref o), x6, x7] ∧ Fz [p, g] H H4 ∧ Bag H4 p g ∧ Off p g c ∧
                H4 c = some (.lst (rest.map V.int)) ∧ H4 o = some (.lst xs) ∧ c ≠ o ∧ TrAll K H4 ts xs ∧ Tr.leavesAll ts ++ rest = row ∧ ts.length = i + 1 ∧ many ≤ rest.length + (i + 1) ∧ (i + 1 = many → rest = []) ∧ Tr.wfAll ts ∧ Tr.depthAll ts ≤ deep, rt := Q }
            [some (.ref p), some (.ref a), some (.int deep), some (.int many), some (.ref c), some (.ref o), some (.int i), some (.int s)] H5 := by
        intro s H5 hs1 hs2 hs3 hs4 f5 b5
        have ec5 := f5 _ _ ec (.inl offc)
        have eo5 := f5 _ _ eo4 (.inl offo)
        refine ⟨_, rfl, .inl ⟨rfl, _, SqL.of eo5⟩, _, rfl, _, rfl, _, rfl, (s : Int), rfl, c, _, rfl, SqL.of ec5, fun d nd => ?_⟩
        rw [cut_to (by omega), Int.toNat_natCast, ← List.map_take]
        have s6 : Same H5 (upd H5 d (.lst ((rest.take s).map V.int))) := new_same _ nd
        have ed := upd_same (H := H5) (a := d) (o := .lst ((rest.take s).map V.int))
        have offd := b5.off nd
        revert s6 ed
        generalize upd H5 d (.lst ((rest.take s).map V.int)) = H6
        intro s6 ed
        refine ⟨_, rfl, (deep : Int), 1, rfl, rfl, ?_⟩
        have lt : (rest.take s).length = s := by
          rw [List.length_take]
          omega
        refine ⟨p, g, d, rest.take s, deep - 1, ?_, b5.same s6, SqL.of ed, offd, ?_, by omega, fun x hx => hbt x ?_, by omega, fun t v H7 ht wt dt tv f7 b7 => ?_⟩
        · show [V.ref p, V.ref d, V.int ((deep : Int) - 1)] = _
          rw [show ((deep : Int) - 1) = ((deep - 1 : Nat) : Int) by omega]
        · intro z
          rw [z] at lt
          simp at lt
          omega
        · rw [← lv]
          exact List.mem_append_right _ (List.mem_of_mem_take hx)
        have f57 : Fz [p, g] H5 H7 := (Fz.of s6).trans f7
        have ec7 := f57 _ _ ec5 (.inl offc)
        have eo7 := f57 _ _ eo5 (.inl offo)
        refine ⟨o, xs, v, rfl, rfl, eo7, small1000 (by omega), ?_⟩
        have f47 := f5.trans f57
        have f8 : Fz [p, g] H (upd H7 o (.lst (xs ++ [v]))) := (f4.trans f47).grow no0
        have b8 : Bag (upd H7 o (.lst (xs ++ [v]))) p g := b7.keep offo
        have ec8 : (upd H7 o (.lst (xs ++ [v]))) c = some (.lst (rest.map V.int)) := by rw [upd_ne hco]; exact ec7
        have eo8 := upd_same (H := H7) (a := o) (o := .lst (xs ++ [v]))
        have tr8 : TrAll K (upd H7 o (.lst (xs ++ [v]))) (ts ++ [t]) (xs ++ [v]) := TrAll.fz (Fz.chg (ex := [o]) eo7 rfl (List.mem_singleton.mpr rfl)) _ _ (TrAll.snoc tv ts xs (TrAll.fz f47 ts xs tr))
        revert f8 b8 ec8 eo8 tr8
        generalize upd H7 o (.lst (xs ++ [v])) = H8
        intro f8 b8 ec8 eo8 tr8
        refine ⟨_, rfl, _, rfl, (s : Int), rfl, c, _, rfl, SqL.of ec8, fun e ne => ?_⟩
        rw [cut_from (by omega), Int.toNat_natCast, ← List.map_drop]
        have s9 : Same H8 (upd H8 e (.lst ((rest.drop s).map V.int))) := new_same _ ne
        refine ⟨rest.drop s, e, ts ++ [t], xs ++ [v], _, _, rfl, f8.trans (Fz.of s9), b8.same s9, b8.off ne, upd_same, s9 _ _ eo8, (ne_of_none eo8 ne).symm, TrAll.fz (Fz.of (ex := []) s9) _ _ tr8, ?_, by rw [List.length_append, List.length_singleton, lts], by rw [List.length_drop]; exact hs3, fun e => ?_, wfAll_snoc wt ts wfa, depth_snoc (by omega) ts dep⟩
        · rw [leavesAll_append]
          simp only [Tr.leavesAll, List.append_nil]
          rw [ht, List.append_assoc, List.take_append_drop]
          exact lv
        · rw [hs4 e, List.drop_length]
      refine ⟨_, rfl, _, rfl, (many : Int), 1, rfl, rfl, rfl, _, rfl, ?_⟩
      refine ite2 (fun c1 => ?_) (fun c1 => ?_)
      · have c2 := V.int.inj (of_decide_eq_true c1)
        have e1 : i + 1 = many := by omega
        refine ⟨_, rfl, c, _, rfl, .inl (SqL.of ec), ?_⟩
        rw [List.length_map]
        exact rest_ rest.length H4 (by omega) (Nat.le_refl _) (by omega) (fun _ => rfl) Fz.refl b4
      · have c2 : ¬ (i + 1 = many) := fun z => c1 (decide_eq_true (by congr 1; omega))
        refine ⟨_, rfl, _, rfl, c, _, rfl, .inl (SqL.of ec), _, rfl, _, _, rfl, rfl, _, rfl, _, _, rfl, rfl, _, _, rfl, rfl, ?_⟩
        rw [List.length_map]
        refine ⟨p, g, _, rfl, b4, by omega, by omega, fun d H5 h0 h1 f5 b5 => ⟨1, d, rfl, rfl, ?_⟩⟩
        have ed : (1 : Int) + d = ((1 + d.toNat : Nat) : Int) := by omega
        have fin := rest_ (1 + d.toNat) H5 (by omega) (by omega) (by omega) (by omega) f5 b5
        rw [← ed] at fin
        exact fin
    · rintro σ H4 ⟨rest, c, ts, xs, x6, x7, rfl, f4, b4, offc, ec, eo4, hco, tr, lv, lts, lr, hrest, wfa, dep⟩
      have ltm : ts.length = many := lts
      have er0 := hrest rfl
      subst er0
      rw [List.append_nil] at lv
      refine ⟨_, rfl, _, rfl, p, g, (many : Int), rfl, b4, by omega, by omega, fun d H5 h0 h1 f5 b5 => ⟨1, d, rfl, rfl, ?_⟩⟩
      have eo5 := f5 _ _ eo4 (.inl offo)
      refine ⟨_, rfl, o, _, rfl, .inl ⟨SqL.of eo5, fun l nl => ⟨(by show 2 ≤ sizeLine; decide), fun c nc => ?_⟩⟩⟩
      have s3 : Same H5 (upd H5 l (.tup xs)) := new_same _ nl
      have el := upd_same (H := H5) (a := l) (o := .tup xs)
      revert nc s3 el
      generalize upd H5 l (.tup xs) = H6
      intro nc s3 el
      have s4 : Same H6 (upd H6 c (.tup [.int (1 + d), .ref l])) := new_same _ nc
      refine q (.node (1 + d) ts) _ _ (by simp only [Tr.leaves]; exact lv) ?_ ?_ ?_ (f4.trans (f5.trans (Fz.of (s3.trans s4)))) (b5.same (s3.trans s4))
      · simp only [Tr.wf]
        exact ⟨by omega, by omega, wfa⟩
      · simp only [Tr.depth]
        omega
      · simp only [TrAt]
        exact ⟨c, l, _, rfl, SqT.inj upd_same, SqT.inj (s4 _ _ el), TrAll.fz (f5.trans (Fz.of (s3.trans s4))) _ _ tr⟩
  refine ⟨_, rfl, rfl, _, rfl, ?_⟩
  refine ite2 (fun c => ?_) (fun c => ?_)
  · exact ret0 H Fz.refl hb
  · have hdeep : 0 < deep := by
      rcases Nat.eq_zero_or_pos deep with e | e
      · subst e
        exact absurd (decide_eq_true rfl) c
      · exact e
    refine ⟨_, rfl, a, _, rfl, .inl ha, rfl, _, rfl, ?_⟩
    refine ite2 (fun c => ?_) (fun c => ?_)
    · refine ⟨_, rfl, p, g, 5, rfl, hb, by decide, by decide, fun d H1 h0 h1 f1 b1 => ⟨_, _, rfl, rfl, _, rfl, ?_⟩⟩
      exact ite2 (fun c => ret0 H1 f1 b1) (fun c => main H1 f1 b1 hdeep)
    · exact main H Fz.refl hb hdeep
theorem len_ltree {K : PySem.W.Frag} {n : Nat} : ∀ vs H Q E, sp_ltree K n vs H Q E → vs.length = ["_law_bag_here", "_law_row", "_law_deep"].length := fun vs H Q E h => by
  obtain ⟨p, g, a, row, deep, rfl, _⟩ := h
  rfl
end K19

namespace K19
open PySem PySem.Spec PyProof.Rows L2

theorem catA' {K : PySem.W.Frag} {H : Hp} {a b : Addr} {xs ys : List Int} {Q : VK} (ha : SqT K H a (xs.map V.int)) (hb : SqT K H b (ys.map V.int)) (hl : xs.length + ys.length ≤ 1000) (q : ∀ (p : Addr) (H' : Hp), Same H H' → SqT K H' p ((xs ++ ys).map V.int) → Q (.ref p) H') : rCatA K (.ref a) (.ref b) H Q := by
  refine ⟨a, b, _, _, rfl, rfl, ha, hb, by rw [List.length_map, List.length_map]; exact Nat.le_of_lt (small1000 hl), fun e => ?_, fun _ e => ?_, fun _ _ p np => ?_⟩
  · rw [List.map_eq_nil_iff] at e
    subst e
    exact q b H (Same.refl H) hb
  · rw [List.map_eq_nil_iff] at e
    subst e
    refine q a H (Same.refl H) ?_
    rw [List.append_nil]
    exact ha
  · exact q p _ (new_same _ np) (SqT.inj (by rw [upd_same, List.map_append]))
/-- lot + (button,) -/
theorem cat1 {K : PySem.W.Frag} {H : Hp} {a : Addr} {xs : List Int} {x : Int} {Q : VK} (ha : SqT K H a (xs.map V.int)) (hl : xs.length ≤ 900) (q : ∀ (p : Addr) (H' : Hp), Same H H' → SqT K H' p ((xs ++ [x]).map V.int) → Q (.ref p) H') :
    ([V.int x].length ≤ sizeLine ∧ ∀ p, H p = none → rCatA K (.ref a) (.ref p) (upd H p (.tup [.int x])) Q) := by
  refine ⟨(by show 1 ≤ sizeLine; decide), fun p np => catA' (xs := xs) (ys := [x]) ((Fz.new (ex := []) np).tup ha) (SqT.inj upd_same) (by simp; omega) fun r H' s h => ?_⟩
  exact q r H' ((new_same _ np).trans s) h
theorem TreeOk.count0 {t : Tr} {row : List Int} (ok : TreeOk t row) : cntG t row [] [] = ((lots t row).length : Int) := by
  unfold cntG
  rw [if_pos (fun x hx => absurd hx List.not_mem_nil), lots_length t row ok.wf ok.perm ok.nodup]

/-! ### going_at -/
def sp_gat (K : PySem.W.Frag) (U : Addr) : Sp := fun vs H Q E => ∃ (t : Tr) (row : List Int) (v x : V) (n : String), vs = [v, x] ∧ TrAt K H t v ∧ TreeOk t row ∧ AnyV K H x n ∧
  (∀ (k : Nat) (l : List Int), x = .int k → (lots t row)[k]? = some l → ∀ (r : Addr) (H' : Hp), Same H H' → SqT K H' r (l.map V.int) → Q (.ref r) H') ∧
  (isPl (lots t row).length x = false → ∀ H', Same H H' → E (.ref U) none H')
theorem isPl_true {m : Int} {x : V} (h : isPl m x = true) : ∃ k : Nat, x = .int k ∧ (k : Int) < m := by
  cases x with
  | int i =>
    have h' : (decide (0 ≤ i) && decide (i < m)) = true := h
    simp only [Bool.and_eq_true, decide_eq_true_eq] at h'
    exact ⟨i.toNat, by congr 1; omega, by omega⟩
  | _ => cases h
theorem law_gat {K : PySem.W.Frag} {w : World} {U : Addr} (vs : List V) (H : Hp) (Q : VK) (E : XK) (h : sp_gat K U vs H Q E) : t_gat K w (sp_ispl K) (sp_gcount K) (sp_bof K 8) (sp_goes K 8) U E { nx := fun _ H' => Q .non H', rt := Q } (start N_gat vs) H := by
  obtain ⟨t, row, v, x, n, rfl, ht, ok, ax, q1, q2⟩ := h
  have few : t.leaves.length ≤ 1000 := by have := ok.len; omega
  refine ⟨x, rfl, v, rfl, (by show 0 ≤ sizeLine; decide), fun m nm => ⟨(by show 0 ≤ sizeLine; decide), fun k nk => ?_⟩⟩
  have s1 : Same H (upd H m (.tup [])) := new_same _ nm
  have em := upd_same (H := H) (a := m) (o := .tup [])
  revert nk s1 em
  generalize upd H m (.tup []) = H1
  intro nk s1 em
  have s2 : Same H1 (upd H1 k (.tup [])) := new_same _ nk
  have ek := upd_same (H := H1) (a := k) (o := .tup [])
  revert s2 ek
  generalize upd H1 k (.tup []) = H2
  intro s2 ek
  refine ⟨t, row, v, m, k, [], [], rfl, TrAt.fz (Fz.of (ex := []) (s1.trans s2)) t v ht, ok, SqT.inj (s2 _ _ em), Nat.zero_le _, SqT.inj ek, fun H3 s3 => ?_⟩
  rw [ok.count0]
  have s03 := s1.trans (s2.trans s3)
  refine ⟨x, n, _, rfl, ax.fz s03, _, rfl, ?_⟩
  cases c : isPl (lots t row).length x with
  | false => exact iteT (q2 c H3 s03)
  | true =>
    refine iteF ?_
    obtain ⟨num, rfl, hnum⟩ := isPl_true c
    have hnum' : num < (lots t row).length := by omega
    obtain ⟨l, hl⟩ : ∃ l, (lots t row)[num]? = some l := ⟨_, List.getElem?_eq_getElem hnum'⟩
    refine ⟨(by show 0 ≤ sizeLine; decide), fun A nA => ⟨(by show 0 ≤ sizeLine; decide), fun B nB => ⟨_, rfl, _, _, _, rfl, ?_⟩⟩⟩
    have s4 : Same H3 (upd H3 A (.tup [])) := new_same _ nA
    have eA := upd_same (H := H3) (a := A) (o := .tup [])
    revert nB s4 eA
    generalize upd H3 A (.tup []) = H4
    intro nB s4 eA
    have s5 : Same H4 (upd H4 B (.tup [])) := new_same _ nB
    have eB := upd_same (H := H4) (a := B) (o := .tup [])
    revert s5 eB
    generalize upd H4 B (.tup []) = H5
    intro s5 eB
    have s05 := s03.trans (s4.trans s5)
    have fin : ∀ (r : Addr) (H' : Hp), Same H H' → SqT K H' r (l.map V.int) → Q (.ref r) H' := q1 num l rfl hl
    refine ⟨v, rfl, t, v, row, rfl, TrAt.fz (Fz.of (ex := []) s05) t v ht, ok.deep, few, ok.perm, ok.asc, fun R H6 s6 eR => ?_⟩
    have s06 := s05.trans s6
    refine ⟨R, rfl, ⟨_, SqT.inj eR⟩, for_tup (K := K) (a := R) (xs := row.map V.int)
      (fun i σ H7 => ∃ (a b : Addr) (lot never : List Int) (j : Nat) (x5 x6 : Option V), σ = [some v, some (.int num), some (.ref a), some (.ref b), some (.int j), x5, x6] ∧ Same H H7 ∧ H7 R = some (.tup (row.map V.int)) ∧ SqT K H7 a (lot.map V.int) ∧ SqT K H7 b (never.map V.int) ∧
        lot.length ≤ i ∧ never.length ≤ i ∧ Cut row lot never (row.drop i) ∧ (lexg (fun s => t.goes s) lot (row.drop i))[j]? = some l)
      ⟨A, B, [], [], num, none, none, rfl, s06, eR, SqT.inj (s6 _ _ (s5 _ _ eA)), SqT.inj (s6 _ _ eB), Nat.le_refl _, Nat.le_refl _, Cut.start row, hl⟩ (fun i σ H7 _ hP => ?_) ?_ ?_⟩
    · obtain ⟨_, _, _, _, _, _, _, _, _, e, _⟩ := hP
      exact SqT.inj e
    · rintro i y σ H7 hy ⟨a, b, lot, never, j, x5, x6, rfl, s7, eR7, ha, hb, l1, l2, cut, at_⟩
      obtain ⟨x, hx, rfl⟩ := ints_get hy
      have hi := (List.getElem?_eq_some_iff.mp hx).1
      have hrow := ok.few
      have ed : row.drop i = x :: row.drop (i + 1) := by
        rw [← (List.getElem?_eq_some_iff.mp hx).2]
        exact List.drop_eq_getElem_cons hi
      rw [ed] at cut at_
      have cutT := cut.take ok.asc
      have cutS := cut.skip ok.asc
      have many : cntG t row (lot ++ [x]) never = ((blk (fun s => t.goes s) (lot ++ [x]) (row.drop (i + 1))).length : Int) := by
        unfold cntG
        rw [if_pos cutT.sub]
        exact cutT.many ok.wf ok.perm ok.asc
      refine ⟨v, rfl, _, rfl, _, rfl, cat1 ha (by omega) fun A1 H8 s8 hA1 => ?_⟩
      have s08 := s7.trans s8
      refine ⟨_, rfl, t, row, v, A1, b, lot ++ [x], never, rfl, TrAt.fz (Fz.of (ex := []) s08) t v ht, ok, hA1, by simp; omega, (Fz.of (ex := []) s8).tup hb, fun H9 s9 => ?_⟩
      rw [many]
      have s89 := s8.trans s9
      have s09 := s7.trans s89
      have eR9 := s89 _ _ eR7
      have ha9 := (Fz.of (ex := []) s89).tup ha
      have hb9 := (Fz.of (ex := []) s89).tup hb
      refine ⟨_, rfl, _, rfl, (j : Int), _, rfl, rfl, _, rfl, ?_⟩
      refine ite2 (fun c => ?_) (fun c => ?_)
      · have c' : (blk (fun s => t.goes s) (lot ++ [x]) (row.drop (i + 1))).length ≤ j := by
          have := of_decide_eq_true c
          omega
        refine ⟨_, rfl, _, rfl, _, _, rfl, rfl, ?_⟩
        refine ⟨_, rfl, _, rfl, cat1 hb9 (by omega) fun B1 H10 s10 hB1 => ?_⟩
        rw [at_skip c'] at at_
        refine ⟨a, B1, lot, never ++ [x], j - (blk (fun s => t.goes s) (lot ++ [x]) (row.drop (i + 1))).length, some (.int x), some (.int ((blk (fun s => t.goes s) (lot ++ [x]) (row.drop (i + 1))).length : Int)), ?_, s09.trans s10, s10 _ _ eR9, (Fz.of (ex := []) s10).tup ha9, hB1, by omega, by simp; omega, cutS, at_⟩
        rw [Int.ofNat_sub c']
        rfl
      · have c' : j < (blk (fun s => t.goes s) (lot ++ [x]) (row.drop (i + 1))).length := by
          have : ¬ (((blk (fun s => t.goes s) (lot ++ [x]) (row.drop (i + 1))).length : Int) ≤ (j : Int)) := fun z => c (decide_eq_true z)
          omega
        rw [at_in c'] at at_
        refine ⟨_, rfl, _, rfl, cat1 ha9 (by omega) fun A2 H10 s10 hA2 => ?_⟩
        have s010 := s09.trans s10
        refine ⟨v, rfl, _, rfl, t, v, A2, lot ++ [x], rfl, TrAt.fz (Fz.of (ex := []) s010) t v ht, .inr hA2, ok.deep, ok.wf, few, fun H11 s11 => ⟨_, rfl, ?_⟩⟩
        have s10' := s10.trans s11
        have hA2' := (Fz.of (ex := []) s11).tup hA2
        cases gg : t.goes (lot ++ [x]) with
        | true =>
          rw [blk_go gg] at at_
          refine iteT ⟨_, rfl, rfl, _, rfl, ?_⟩
          refine ite2 (fun c2 => ?_) (fun c2 => ?_)
          · have e0 : j = 0 := by
              have := V.int.inj (of_decide_eq_true c2)
              omega
            subst e0
            cases at_
            exact ⟨_, rfl, fin A2 H11 (s010.trans s11) hA2'⟩
          · have e0 : j ≠ 0 := fun z => c2 (decide_eq_true (by rw [z]; rfl))
            refine ⟨_, rfl, _, _, rfl, rfl, A2, b, lot ++ [x], never, j - 1, some (.int x), some (.int ((blk (fun s => t.goes s) (lot ++ [x]) (row.drop (i + 1))).length : Int)), ?_, s010.trans s11, s10' _ _ eR9, hA2', (Fz.of (ex := []) s10').tup hb9, by simp; omega, by omega, cutT, ?_⟩
            · rw [show ((j - 1 : Nat) : Int) = (j : Int) - 1 by omega]
              rfl
            · obtain ⟨j', rfl⟩ := Nat.exists_eq_succ_of_ne_zero e0
              rw [List.getElem?_cons_succ] at at_
              exact at_
        | false =>
          rw [blk_no gg] at at_
          refine iteF ?_
          exact ⟨A2, b, lot ++ [x], never, j, _, _, rfl, s010.trans s11, s10' _ _ eR9, hA2', (Fz.of (ex := []) s10').tup hb9, by simp; omega, by omega, cutT, at_⟩
    · rintro σ H7 ⟨a, b, lot, never, j, x5, x6, rfl, s7, eR7, ha, hb, l1, l2, cut, at_⟩
      rw [List.length_map, List.drop_length] at at_
      simp [lexg] at at_
theorem len_gat {K : PySem.W.Frag} {U : Addr} : ∀ vs H Q E, sp_gat K U vs H Q E → vs.length = ["tree", "value"].length := fun vs H Q E h => by
  obtain ⟨t, row, v, x, n, rfl, _⟩ := h
  rfl

/-! ### going_number -/
theorem asc_filter {l row : List Int} (hl : l.Pairwise (· < ·)) (hr : row.Pairwise (· < ·)) (h : ∀ x ∈ l, x ∈ row) : row.filter (fun x => decide (x ∈ l)) = l := by
  have hp : (row.filter (fun x => decide (x ∈ l))).Perm l := by
    rw [List.perm_ext_iff_of_nodup ((nodup_of hr).filter _) (nodup_of hl)]
    intro a
    rw [List.mem_filter]
    exact ⟨fun q => of_decide_eq_true q.2, fun q => ⟨h a q, decide_eq_true q⟩⟩
  exact List.Perm.eq_of_pairwise (le := fun a b => a ≤ b) (fun a b _ _ h1 h2 => Int.le_antisymm h1 h2) ((hr.filter _).imp fun h => Int.le_of_lt h) (hl.imp fun h => Int.le_of_lt h) hp
mutual
theorem wf_leaves : ∀ t : Tr, t.wf → ∀ x ∈ t.leaves, 0 ≤ x ∧ x ≤ 99
  | .leaf b, w, x, h => by
    simp only [Tr.wf] at w
    simp [Tr.leaves] at h
    rw [h]
    exact w
  | .node k ps, w, x, h => by
    simp only [Tr.wf] at w
    simp only [Tr.leaves] at h
    exact wf_leavesAll ps w.2.2 x h
theorem wf_leavesAll : ∀ ps : List Tr, Tr.wfAll ps → ∀ x ∈ Tr.leavesAll ps, 0 ≤ x ∧ x ≤ 99
  | [], _, x, h => by simp [Tr.leavesAll] at h
  | t :: ts, w, x, h => by
    simp only [Tr.wfAll] at w
    simp only [Tr.leavesAll, List.mem_append] at h
    exact h.elim (wf_leaves t w.1 x) (wf_leavesAll ts w.2 x)
end
theorem TreeOk.btn {t : Tr} {row : List Int} (ok : TreeOk t row) : ∀ x ∈ row, 0 ≤ x ∧ x ≤ 99 := fun x hx => wf_leaves t ok.wf x (ok.perm.mem_iff.mpr hx)
/-- l is a lot of the tree that goes -/
structure LotOk (t : Tr) (row l : List Int) : Prop where
  asc : l.Pairwise (· < ·)
  sub : ∀ x ∈ l, x ∈ row
  go : t.goes l = true
theorem LotOk.len {t : Tr} {row l : List Int} (ok : TreeOk t row) (h : LotOk t row l) : l.length ≤ 60 := by
  rw [← asc_filter h.asc ok.asc h.sub]
  exact Nat.le_trans (List.length_filter_le _ _) ok.few
theorem LotOk.good {t : Tr} {row l : List Int} (ok : TreeOk t row) (h : LotOk t row l) : GoodL (l.map V.int) := ⟨l, rfl, fun b hb => ok.btn b (h.sub b hb), h.asc, by have := h.len ok; omega⟩
theorem map_int_inj {l m : List Int} (h : l.map V.int = m.map V.int) : l = m := (List.map_inj_right (f := V.int) (fun _ _ h => V.int.inj h)).mp h
def sp_gnum (K : PySem.W.Frag) (U : Addr) : Sp := fun vs H Q E => ∃ (t : Tr) (row : List Int) (v x : V) (n : String), vs = [v, x] ∧ TrAt K H t v ∧ TreeOk t row ∧ AnyV K H x n ∧
  ((n ≠ "tuple" ∧ ∀ H', Same H H' → E (.ref U) none H') ∨
   (n = "tuple" ∧ ∃ (a : Addr) (xs : List V), x = .ref a ∧ SqT K H a xs ∧ (∀ y ∈ xs, ∃ m, AnyV K H y m) ∧ xs.length ≤ 1000 ∧
    (∀ (l : List Int) (k : Nat), xs = l.map V.int → LotOk t row l → (lots t row)[k]? = some l → ∀ H', Same H H' → Q (.int k) H') ∧
    ((¬ ∃ l, xs = l.map V.int ∧ LotOk t row l) → ∀ H', Same H H' → E (.ref U) none H')))
theorem law_gnum {K : PySem.W.Frag} {w : World} {U : Addr} (vs : List V) (H : Hp) (Q : VK) (E : XK) (h : sp_gnum K U vs H Q E) : t_gnum K w (sp_bof K 8) (sp_lerr K) (sp_goes K 8) (sp_gcount K) U E { nx := fun _ H' => Q .non H', rt := Q } (start N_gnum vs) H := by
  obtain ⟨t, row, v, x, n, rfl, ht, ok, ax, q⟩ := h
  have few : t.leaves.length ≤ 1000 := by have := ok.len; omega
  refine ⟨v, rfl, t, v, row, rfl, ht, ok.deep, few, ok.perm, ok.asc, fun R H1 s1 eR => ?_⟩
  rcases q with ⟨hn, q⟩ | ⟨hn, a, xs, rfl, hx, han, hl, q1, q2⟩
  · refine ⟨_, rfl, x, n, rfl, ax.fz s1, fun _ => ⟨rfl, _, rfl, ?_⟩, fun e => absurd e hn⟩
    exact iteT (iteT (q H1 s1))
  · refine ⟨_, rfl, .ref a, n, rfl, ax.fz s1, fun e => absurd hn e, fun _ => ⟨a, xs, rfl, (Fz.of (ex := []) s1).tup hx, fun y hy => ?_, hl, fun y H2 s2 hy => ⟨rfl, _, rfl, ?_⟩⟩⟩
    · obtain ⟨m, am⟩ := han y hy
      exact ⟨m, am.fz s1⟩
    have s02 := s1.trans s2
    by_cases c : y = .non
    case neg =>
      rw [decide_eq_false c]
      refine iteT (iteT (q2 ?_ H2 s02))
      rintro ⟨l, rfl, lo⟩
      exact c (hy.mpr (lo.good ok))
    rw [decide_eq_true c]
    obtain ⟨l, rfl, hb, asc, hl2⟩ := hy.mp c
    have hx2 := (Fz.of (ex := []) s02).tup hx
    have uniq : (¬ LotOk t row l) → ∀ H', Same H H' → E (.ref U) none H' := fun no => q2 fun ⟨l', e', lo⟩ => no (by rw [map_int_inj e']; exact lo)
    refine iteF ?_
    refine ⟨_, rfl, a, rfl, ⟨_, hx2⟩, fun D nD => lcfil (walk_tup (K := K) (a := a) (xs := l.map V.int)) (fun H3 s3 => (Fz.of (ex := []) s3).tup hx2) (by rw [List.length_map]; omega) (fun _ => rfl)
      (fun v => match v with | .int n => !decide (n ∈ row) | _ => false) (fun v => v) (fun v H3 Q3 hv s3 q3 => ?_) (fun v H3 Q3 _ _ _ q3 => ⟨v, rfl, q3⟩) nD fun H3 s3 eD => ?_⟩
    · obtain ⟨n, _, rfl⟩ := List.mem_map.mp hv
      refine ⟨_, rfl, .ref R, rfl, R, row.map V.int, rfl, .inr (SqT.inj (s3 _ _ (s2 _ _ eR))), rfl, flat_ints row, _, rfl, ?_⟩
      rw [if_pos rfl, inV_ints]
      exact q3 H3 (Same.refl H3)
    rw [List.map_id', filter_ints] at eD
    refine ⟨(by show 0 ≤ sizeLine; decide), fun z nz => ?_⟩
    have s4 : Same H3 (upd H3 z (.lst [])) := new_same _ nz
    have s04 := s02.trans (s3.trans s4)
    refine ne_nil (s4 _ _ eD) upd_same ⟨_, rfl, ?_⟩
    have eR4 := s4 _ _ (s3 _ _ (s2 _ _ eR))
    revert s04 eR4
    generalize upd H3 z (.lst []) = H4
    intro s04 eR4
    by_cases sub : ∀ x ∈ l, x ∈ row
    case neg =>
      have e : l.filter (fun n => !decide (n ∈ row)) ≠ [] := by
        intro e
        rw [List.filter_eq_nil_iff] at e
        refine sub fun x hx => ?_
        have := e x hx
        simpa using this
      rw [decide_eq_true e]
      exact iteT (uniq (fun lo => sub lo.sub) H4 s04)
    have e : l.filter (fun n => !decide (n ∈ row)) = [] := by
      rw [List.filter_eq_nil_iff]
      intro x hx
      simp [sub x hx]
    rw [decide_eq_false (fun z => z e)]
    refine iteF ?_
    refine ⟨v, rfl, _, rfl, t, v, a, l, rfl, TrAt.fz (Fz.of (ex := []) s04) t v ht, .inr ((Fz.of (ex := []) s04).tup hx), ok.deep, ok.wf, few, fun H5 s5 => ⟨_, rfl, ?_⟩⟩
    have s05 := s04.trans s5
    cases go : t.goes l with
    | false => exact iteT (uniq (fun lo => by rw [lo.go] at go; cases go) H5 s05)
    | true =>
      refine iteF ?_
      have lo : LotOk t row l := ⟨asc, sub, go⟩
      have lne : l ≠ [] := fun z => by
        subst z
        rw [goes_none t [] ok.wf fun x _ q => nomatch q] at go
        cases go
      have hrow := ok.few
      have hrl : row.filter (fun x => decide (x ∈ l)) = l := asc_filter asc ok.asc sub
      refine ⟨(by show 0 ≤ sizeLine; decide), fun A nA => ⟨(by show 0 ≤ sizeLine; decide), fun B nB => ?_⟩⟩
      have s6 : Same H5 (upd H5 A (.tup [])) := new_same _ nA
      have eA := upd_same (H := H5) (a := A) (o := .tup [])
      revert nB s6 eA
      generalize upd H5 A (.tup []) = H6
      intro nB s6 eA
      have s7 : Same H6 (upd H6 B (.tup [])) := new_same _ nB
      have eB := upd_same (H := H6) (a := B) (o := .tup [])
      revert s7 eB
      generalize upd H6 B (.tup []) = H7
      intro s7 eB
      refine ⟨(by show 3 ≤ sizeLine; decide), fun P nP => ?_⟩
      have s8 : Same H7 (upd H7 P (.tup [.ref A, .ref B, .int 0])) := new_same _ nP
      have eP := upd_same (H := H7) (a := P) (o := .tup [.ref A, .ref B, .int 0])
      revert s8 eP
      generalize upd H7 P (.tup [.ref A, .ref B, .int 0]) = H8
      intro s8 eP
      refine ⟨P, _, rfl, SqT.inj eP, rfl, _, _, rfl, _, _, rfl, _, _, rfl, rfl, ?_⟩
      have s58 := s6.trans (s7.trans s8)
      have s08 := s05.trans s58
      have eR8 := s58 _ _ (s5 _ _ eR4)
      have fin : ∀ (k : Nat) (H' : Hp), (lots t row)[k]? = some l → Same H H' → Q (.int k) H' := fun k H' hk s => q1 l k rfl lo hk H' s
      refine ⟨_, rfl, R, rfl, ⟨_, SqT.inj eR8⟩, for_tup (K := K) (a := R) (xs := row.map V.int)
        (fun i σ H9 => ∃ (c b : Addr) (lot never : List Int) (f : Nat) (x6 : Option V), σ = [some v, some (.ref a), some (.ref R), some (.ref c), some (.ref b), some (.int f), x6] ∧ Same H H9 ∧ H9 R = some (.tup (row.map V.int)) ∧ SqT K H9 c (lot.map V.int) ∧ SqT K H9 b (never.map V.int) ∧
          lot.length ≤ i ∧ never.length ≤ i ∧ Cut row lot never (row.drop i) ∧ From (lots t row) f (lexg (fun s => t.goes s) lot (row.drop i)) ∧ lot = (row.take i).filter (fun x => decide (x ∈ l)) ∧ lot ≠ l)
        ⟨A, B, [], [], 0, none, rfl, s08, eR8, SqT.inj (s8 _ _ (s7 _ _ eA)), SqT.inj (s8 _ _ eB), Nat.le_refl _, Nat.le_refl _, Cut.start row, From.start _, rfl, Ne.symm lne⟩ (fun i σ H7 _ hP => ?_) ?_ ?_⟩
      · obtain ⟨_, _, _, _, _, _, _, _, e, _⟩ := hP
        exact SqT.inj e
      · rintro i y σ H9 hy ⟨c, b, lot, never, f, x6, rfl, s9, eR9, ha, hb9, l1, l2, cut, fr, elot, nel⟩
        obtain ⟨x, hx', rfl⟩ := ints_get hy
        have hi := (List.getElem?_eq_some_iff.mp hx').1
        have ed : row.drop i = x :: row.drop (i + 1) := by
          rw [← (List.getElem?_eq_some_iff.mp hx').2]
          exact List.drop_eq_getElem_cons hi
        rw [ed] at cut fr
        rw [lexg_cons] at fr
        have cutT := cut.take ok.asc
        have cutS := cut.skip ok.asc
        have many : cntG t row (lot ++ [x]) never = ((blk (fun s => t.goes s) (lot ++ [x]) (row.drop (i + 1))).length : Int) := by
          unfold cntG
          rw [if_pos cutT.sub]
          exact cutT.many ok.wf ok.perm ok.asc
        refine ⟨_, rfl, _, rfl, a, _, rfl, .inr ((Fz.of (ex := []) s9).tup hx), rfl, flat_ints l, _, rfl, ?_⟩
        rw [if_pos rfl, inV_ints]
        by_cases hxl : x ∈ l
        · rw [decide_eq_true hxl]
          refine iteF ?_
          refine ⟨_, rfl, _, rfl, cat1 ha (by omega) fun A2 H10 s10 hA2 => ?_⟩
          have s010 := s9.trans s10
          have el2 : lot ++ [x] = (row.take (i + 1)).filter (fun x => decide (x ∈ l)) := by
            rw [take_more hx', List.filter_append, ← elot]
            simp [hxl]
          refine ⟨_, rfl, _, rfl, _, _, .tup hA2 (dp_ints _), .tup ((Fz.of (ex := []) s010).tup hx) (dp_ints _), shaped_ti _, shaped_ti _, _, rfl, ?_⟩
          rw [eqv_ti]
          refine ite2 (fun c2 => ?_) (fun c2 => ?_)
          · have e2 := of_decide_eq_true c2
            refine ⟨_, rfl, fin f H10 ?_ s010⟩
            have fl := fr.left
            rw [e2, blk_go go] at fl
            have := fl 0 l rfl
            simpa using this
          · have e2 : lot ++ [x] ≠ l := fun z => c2 (decide_eq_true z)
            refine ⟨_, rfl, _, rfl, _, rfl, t, v, A2, lot ++ [x], rfl, TrAt.fz (Fz.of (ex := []) s010) t v ht, .inr hA2, ok.deep, ok.wf, few, fun H11 s11 => .inr ⟨_, rfl, _, _, rfl, rfl, ?_⟩⟩
            have s10' := s10.trans s11
            have fl := fr.left
            refine ⟨A2, b, lot ++ [x], never, f + (if t.goes (lot ++ [x]) = true then 1 else 0), some (.int x), ?_, s010.trans s11, s10' _ _ eR9, (Fz.of (ex := []) s11).tup hA2, (Fz.of (ex := []) s10').tup hb9, by simp; omega, by omega, cutT, ?_, el2, e2⟩
            · cases t.goes (lot ++ [x]) <;> rfl
            · cases gg : t.goes (lot ++ [x]) with
              | true =>
                rw [blk_go gg] at fl
                exact From.right (a := [lot ++ [x]]) fl
              | false =>
                rw [blk_no gg] at fl
                exact fl
        · rw [decide_eq_false hxl]
          refine iteT ?_
          refine ⟨_, rfl, v, rfl, _, rfl, _, rfl, cat1 ha (by omega) fun A1 H10 s10 hA1 => ?_⟩
          have s010 := s9.trans s10
          refine ⟨_, rfl, t, row, v, A1, b, lot ++ [x], never, rfl, TrAt.fz (Fz.of (ex := []) s010) t v ht, ok, hA1, by simp; omega, (Fz.of (ex := []) s10).tup hb9, fun H11 s11 => ?_⟩
          rw [many]
          have s10' := s10.trans s11
          refine ⟨_, _, rfl, rfl, ?_⟩
          refine ⟨_, rfl, _, rfl, cat1 ((Fz.of (ex := []) s10').tup hb9) (by omega) fun B1 H12 s12 hB1 => ?_⟩
          have s9' := s10'.trans s12
          refine ⟨c, B1, lot, never ++ [x], f + (blk (fun s => t.goes s) (lot ++ [x]) (row.drop (i + 1))).length, some (.int x), rfl, s9.trans s9', s9' _ _ eR9, (Fz.of (ex := []) s9').tup ha, hB1, by omega, by simp; omega, cutS, fr.right, ?_, nel⟩
          rw [take_more hx', List.filter_append, ← elot]
          simp [hxl]
      · rintro σ H9 ⟨c, b, lot, never, f, x6, rfl, s9, eR9, ha, hb9, l1, l2, cut, fr, elot, nel⟩
        rw [List.length_map, List.take_length, hrl] at elot
        exact absurd elot nel
theorem len_gnum {K : PySem.W.Frag} {U : Addr} : ∀ vs H Q E, sp_gnum K U vs H Q E → vs.length = ["tree", "value"].length := fun vs H Q E h => by
  obtain ⟨t, row, v, x, n, rfl, _⟩ := h
  rfl
end K19

namespace K19
open PySem PySem.Spec PyProof.Rows L2

/-! ### _law_number -/
theorem asc_index {row : List Int} (h : row.Pairwise (· < ·)) {i j : Nat} {x y : Int} (hi : row[i]? = some x) (hj : row[j]? = some y) : x < y ↔ i < j := by
  obtain ⟨h1, rfl⟩ := List.getElem?_eq_some_iff.mp hi
  obtain ⟨h2, rfl⟩ := List.getElem?_eq_some_iff.mp hj
  have key := List.pairwise_iff_getElem.mp h
  constructor
  · intro lt
    rcases Nat.lt_trichotomy i j with c | c | c
    · exact c
    · subst c
      exact absurd lt (Int.lt_irrefl _)
    · have := key j i h2 h1 c
      omega
  · exact fun c => key i j h1 h2 c
theorem Cut.at_ {row lot : List Int} {j : Nat} {x : Int} (hr : row.Pairwise (· < ·)) (hj : row[j]? = some x) (hs : ∀ y ∈ lot, y ∈ row ∧ y < x) (ha : lot.Pairwise (· < ·)) :
    Cut row (lot ++ [x]) (row.filter fun o => decide (o < x) && !decide (o ∈ lot ++ [x])) (row.drop (j + 1)) := by
  have hx : x ∈ row := List.mem_of_getElem? hj
  have inPre : ∀ y, y ∈ row → y ≤ x → y ∈ row.take (j + 1) := fun y hy hyx => by
    obtain ⟨i, hi⟩ := List.getElem?_of_mem hy
    have hij : i < j + 1 := by
      rcases Nat.lt_or_ge i (j + 1) with c | c
      · exact c
      · have := (asc_index hr hj hi).mpr (by omega)
        omega
    exact List.mem_of_getElem? (by rw [List.getElem?_take, if_pos hij]; exact hi)
  have outPre : ∀ y, y ∈ row.take (j + 1) → y ≤ x := fun y hy => by
    obtain ⟨i, hi⟩ := List.getElem?_of_mem hy
    rw [List.getElem?_take] at hi
    by_cases hij : i < j + 1
    · rw [if_pos hij] at hi
      rcases Nat.lt_or_ge i j with c | c
      · have := (asc_index hr hi hj).mpr c
        omega
      · have e : i = j := by omega
        subst e
        rw [hi] at hj
        cases hj
        exact Int.le_refl _
    · rw [if_neg hij] at hi
      cases hi
  have asc' : (lot ++ [x]).Pairwise (· < ·) := by
    rw [List.pairwise_append]
    refine ⟨ha, List.pairwise_singleton _ _, fun y hy z hz => ?_⟩
    rw [List.mem_singleton.mp hz]
    exact (hs y hy).2
  refine ⟨row.take (j + 1), (List.take_append_drop _ _).symm, fun y hy => ?_, ?_, fun y hy => ?_⟩
  · by_cases c : y ∈ lot ++ [x]
    · refine .inl ⟨c, fun n => ?_⟩
      have := (List.mem_filter.mp n).2
      simp [c] at this
    · refine .inr ⟨c, List.mem_filter.mpr ⟨List.mem_of_mem_take hy, ?_⟩⟩
      have h1 := outPre y hy
      have h2 : y ≠ x := fun e => c (by rw [e]; simp)
      have h3 : y < x := by omega
      simp only [h3, decide_true, c, decide_false, Bool.not_false, Bool.and_self]
  · refine asc_filter asc' (hr.sublist (List.take_sublist _ _)) fun y hy => ?_
    rcases List.mem_append.mp hy with hy | hy
    · exact inPre y (hs y hy).1 (Int.le_of_lt (hs y hy).2)
    · rw [List.mem_singleton.mp hy]
      exact inPre x hx (Int.le_refl _)
  · obtain ⟨h1, h2⟩ := List.mem_filter.mp hy
    simp only [Bool.and_eq_true, decide_eq_true_eq] at h2
    exact inPre y h1 (Int.le_of_lt h2.1)
theorem sl_to {K : PySem.W.Frag} {H : Hp} {a : Addr} {l : List Int} {k : Int} {Q : VK} (h0 : 0 ≤ k) (h : SqT K H a (l.map V.int)) (q : ∀ (p : Addr) (H' : Hp), Same H H' → SqT K H' p ((l.take k.toNat).map V.int) → Q (.ref p) H') : rSlA K (.ref a) none (some k) H Q := by
  refine ⟨a, _, rfl, h, fun e => ?_, fun _ p np => ?_⟩
  · have e2 := e.2
    have e3 : HT.sIx (l.map V.int).length (l.map V.int).length (some k) = min k.toNat l.length := by
      show (if k < 0 then (k + ((l.map V.int).length : Int)).toNat else min k.toNat (l.map V.int).length) = _
      rw [if_neg (by omega), List.length_map]
    rw [e3, List.length_map] at e2
    refine q a H (Same.refl H) ?_
    rw [List.take_of_length_le (by omega)]
    exact h
  · rw [cut_to h0, ← List.map_take]
    exact q p _ (new_same _ np) (SqT.inj upd_same)
def sp_lnumber (K : PySem.W.Frag) : Sp := fun vs H Q _ => ∃ (t : Tr) (row : List Int) (v : V) (a : Addr) (l : List Int) (k : Nat), vs = [v, .ref a] ∧ TrAt K H t v ∧ TreeOk t row ∧ SqT K H a (l.map V.int) ∧ LotOk t row l ∧ (lots t row)[k]? = some l ∧
  ∀ H', Same H H' → Q (.int k) H'
theorem len_lnumber {K : PySem.W.Frag} : ∀ vs H Q E, sp_lnumber K vs H Q E → vs.length = ["_law_tree_here", "_law_some"].length := fun vs H Q E h => by
  obtain ⟨t, row, v, a, l, k, rfl, _⟩ := h
  rfl
theorem drop_cons {row : List Int} {j : Nat} {x : Int} (h : row[j]? = some x) : row.drop j = x :: row.drop (j + 1) := by
  obtain ⟨hj, rfl⟩ := List.getElem?_eq_some_iff.mp h
  exact List.drop_eq_getElem_cons hj
set_option maxHeartbeats 16000000 in
theorem law_lnumber {K : PySem.W.Frag} {w : World} (vs : List V) (H : Hp) (Q : VK) (E : XK) (h : sp_lnumber K vs H Q E) : t_lnumber K w (sp_lheld K 8) (sp_goes K 8) (sp_gmany K 8) { nx := fun _ H' => Q .non H', rt := Q } (start N_lnumber vs) H := by
  obtain ⟨t, row, v, a, l, k, rfl, ht, ok, hl, lo, hk, q⟩ := h
  have few : t.leaves.length ≤ 1000 := by have := ok.len; omega
  have hrow := ok.few
  have hlen := lo.len ok
  have z0 : t.goes [] = false := goes_none t [] ok.wf fun x _ q => nomatch q
  refine ⟨v, rfl, t, v, rfl, ht, ok.deep, few, fun r0 H1 s1 nr0 er0 => ?_⟩
  refine ⟨r0, _, rfl, SqL.of er0, fun ns R perm asc nR => ?_⟩
  have ens : ns = row := List.Perm.eq_of_pairwise (le := fun a b => a ≤ b) (fun a b _ _ h1 h2 => Int.le_antisymm h1 h2) asc (ok.asc.imp fun h => Int.le_of_lt h) (perm.trans ok.perm)
  subst ens
  have s2 : Same H1 (upd H1 R (.lst (ns.map V.int))) := new_same _ nR
  have eR := upd_same (H := H1) (a := R) (o := .lst (ns.map V.int))
  revert s2 eR
  generalize upd H1 R (.lst (ns.map V.int)) = H2
  intro s2 eR
  have s02 := s1.trans s2
  refine ⟨_, _, rfl, _, rfl, a, _, rfl, (Fz.of (ex := []) s02).tup hl, for_enumT (K := K) (a := a) (xs := l.map V.int)
    (fun i σ H3 => ∃ (f s : Nat) (x4 x5 x6 x7 : Option V), σ = [some v, some (.ref a), some (.ref R), some (.int f), x4, x5, x6, x7, none] ∧ Same H H3 ∧ H3 R = some (.lst (ns.map V.int)) ∧ s ≤ ns.length ∧ From (lots t ns) f (blk (fun s => t.goes s) (l.take i) (ns.drop s)) ∧
      (i = 0 → s = 0) ∧ (0 < i → ∃ c, 0 < s ∧ ns[s - 1]? = some c ∧ l[i - 1]? = some c))
    ⟨0, 0, none, none, none, none, rfl, s02, eR, Nat.zero_le _, ?_, fun _ => rfl, fun h => absurd h (Nat.lt_irrefl _)⟩ (fun i σ H3 _ hP => ?_) ?_ ?_⟩
  · rw [List.take_zero, List.drop_zero, blk_no z0]
    exact From.start _
  · obtain ⟨_, _, _, _, _, _, _, s3, _⟩ := hP
    exact (Fz.of (ex := []) s3).tup hl
  · rintro i y T σ H3 hy ⟨f, s, x4, x5, x6, x7, rfl, s3, eR3, hs, fr, i0, i1⟩ nT
    obtain ⟨c, hc, rfl⟩ := ints_get hy
    have hi := (List.getElem?_eq_some_iff.mp hc).1
    have s4 : Same H3 (upd H3 T (.tup [.int (i : Nat), .int c])) := new_same _ nT
    refine ⟨T, _, rfl, SqT.inj upd_same, rfl, _, _, rfl, _, _, rfl, rfl, ?_⟩
    revert s4
    generalize upd H3 T (.tup [.int (i : Nat), .int c]) = H4
    intro s4
    have s04 := s3.trans s4
    refine ⟨_, rfl, v, rfl, _, rfl, _, rfl, (i : Int), rfl, sl_to (by omega) ((Fz.of (ex := []) s04).tup hl) fun P H5 s5 hP => ?_⟩
    rw [Int.toNat_natCast] at hP
    have s05 := s04.trans s5
    refine ⟨t, v, P, l.take i, rfl, TrAt.fz (Fz.of (ex := []) s05) t v ht, .inr hP, ok.deep, ok.wf, few, fun H6 s6 => .inr ⟨_, rfl, _, _, rfl, rfl, ?_⟩⟩
    have s36 := s4.trans (s5.trans s6)
    have s06 := s3.trans s36
    have eR6 := s36 _ _ eR3
    have fr2 : From (lots t ns) (f + (if t.goes (l.take i) = true then 1 else 0)) (lexg (fun s => t.goes s) (l.take i) (ns.drop s)) := by
      cases gg : t.goes (l.take i) with
      | true =>
        rw [blk_go gg] at fr
        exact From.right (a := [l.take i]) fr
      | false =>
        rw [blk_no gg] at fr
        exact fr
    have ef : ((f : Int) + (if t.goes (l.take i) = true then 1 else 0)) = ((f + (if t.goes (l.take i) = true then 1 else 0) : Nat) : Int) := by
      cases t.goes (l.take i) <;> rfl
    -- the place of c in the row
    obtain ⟨qc, hqc⟩ := List.getElem?_of_mem (lo.sub c (List.mem_of_getElem? hc))
    have hqs : s ≤ qc := by
      rcases Nat.eq_zero_or_pos i with e | e
      · rw [i0 e]
        exact Nat.zero_le _
      · obtain ⟨c', h1, h2, h3⟩ := i1 e
        have lt := (asc_index lo.asc h3 hc).mpr (by omega)
        have := (asc_index ok.asc h2 hqc).mp lt
        omega
    have hql := (List.getElem?_eq_some_iff.mp hqc).1
    -- what of the lot is ahead of one that is open
    have ahead : ∀ (j : Nat) (x : Int), ns[j]? = some x → s ≤ j → ∀ y ∈ l.take i, y ∈ ns ∧ y < x := fun j x hj hsj y hy => by
      refine ⟨lo.sub y (List.mem_of_mem_take hy), ?_⟩
      obtain ⟨u, hu⟩ := List.getElem?_of_mem hy
      rw [List.getElem?_take] at hu
      by_cases hui : u < i
      · rw [if_pos hui] at hu
        obtain ⟨c', h1, h2, h3⟩ := i1 (by omega)
        have lt2 : c' < x := (asc_index ok.asc h2 hj).mpr (by omega)
        rcases Nat.lt_or_ge u (i - 1) with d | d
        · have := (asc_index lo.asc hu h3).mpr d
          omega
        · have e : u = i - 1 := by omega
          subst e
          rw [hu] at h3
          cases h3
          exact lt2
      · rw [if_neg hui] at hu
        cases hu
    have asct : (l.take i).Pairwise (· < ·) := lo.asc.sublist (List.take_sublist _ _)
    refine ⟨_, rfl, R, rfl, ⟨_, SqL.of eR6⟩, for_list (K := K) (a := R) (xs := ns.map V.int)
      (fun j σ H7 => ∃ (f : Nat) (x6 x7 : Option V), σ = [some v, some (.ref a), some (.ref R), some (.int f), some (.int i), some (.int c), x6, x7, none] ∧ Same H H7 ∧ H7 R = some (.lst (ns.map V.int)) ∧
        From (lots t ns) f (lexg (fun s => t.goes s) (l.take i) (ns.drop (max s (min j qc)))))
      ⟨f + (if t.goes (l.take i) = true then 1 else 0), x6, x7, by rw [← ef]; rfl, s06, eR6, by rw [show max s (min 0 qc) = s by omega]; exact fr2⟩ (fun j σ H7 _ hP => ?_) ?_ ?_⟩
    · obtain ⟨_, _, _, _, _, e, _⟩ := hP
      exact SqL.of e
    · rintro j y σ H7 hy ⟨f, x6, x7, rfl, s7, eR7, fr⟩
      obtain ⟨x, hx, rfl⟩ := ints_get hy
      have hj := (List.getElem?_eq_some_iff.mp hx).1
      have step : (s ≤ j ∧ j < qc) → tSeq (tAsg (tOp (rCatA K) (tSl (rSlA K) (tVar 1) tNoPart (tPart (tVar 4))) (tTup (tCons (tVar 6) tNil))) (gName 7))
          (tAsg (tOp (rI0 fun i j => .int (i + j)) (tVar 3) (tOp (rIxT K) (tKn (sp_gmany K 8) (tCons (tVar 0) (tCons (tVar 7) (tCons (tLc (iList K (tVar 2)) (gName 8) (tAnd (tTest (tOp (rI0 fun i j => .bl (decide (i < j))) (tVar 8) (tVar 6))) (tTest (tOp (rIn K true) (tVar 8) (tVar 7)))) (tVar 8) [8]) tNil)))) (tC (.int 0)))) (gName 3))
          { nx := fun σ H7 => ∃ (f : Nat) (x6 x7 : Option V), σ = [some v, some (.ref a), some (.ref R), some (.int f), some (.int i), some (.int c), x6, x7, none] ∧ Same H H7 ∧ H7 R = some (.lst (ns.map V.int)) ∧
              From (lots t ns) f (lexg (fun s => t.goes s) (l.take i) (ns.drop (max s (min (j + 1) qc)))), rt := Q }
          [some v, some (.ref a), some (.ref R), some (.int f), some (.int i), some (.int c), some (.int x), x7, none] H7 := by
        rintro ⟨hsj, hjq⟩
        refine ⟨_, rfl, _, rfl, (i : Int), rfl, sl_to (by omega) ((Fz.of (ex := []) s7).tup hl) fun P H8 s8 hP => ?_⟩
        rw [Int.toNat_natCast] at hP
        refine ⟨_, rfl, cat1 hP (by rw [List.length_take]; omega) fun M H9 s9 hM => ?_⟩
        have s79 := s8.trans s9
        have s09 := s7.trans s79
        have eR9 := s79 _ _ eR7
        refine ⟨_, rfl, _, rfl, _, rfl, _, rfl, R, rfl, ⟨_, SqL.of eR9⟩, fun D nD => lcfil (walk_list (K := K) (a := R) (xs := ns.map V.int)) (fun H2 s2 => s2.seq (SqL.of eR9)) (by rw [List.length_map]; omega) (fun _ => rfl)
          (fun v => match v with | .int o => decide (o < x) && !decide (o ∈ l.take i ++ [x]) | _ => false) (fun v => v) (fun v H10 Q10 hv s10 q10 => ?_) (fun v H10 Q10 _ _ _ q10 => ⟨v, rfl, q10⟩) nD fun H10 s10 eD => ?_⟩
        · obtain ⟨o, _, rfl⟩ := List.mem_map.mp hv
          refine ⟨_, rfl, _, rfl, _, _, rfl, rfl, _, rfl, ?_⟩
          have q11 := q10 H10 (Same.refl H10)
          refine ite2 (fun c1 => ?_) (fun c1 => ?_)
          · refine ⟨_, rfl, _, rfl, M, _, rfl, .inr ((Fz.of (ex := []) s10).tup hM), rfl, flat_ints _, _, rfl, ?_⟩
            rw [if_pos rfl, inV_ints]
            simp only [c1, Bool.true_and] at q11
            exact q11
          · have c1' : decide (o < x) = false := Bool.eq_false_iff.mpr c1
            simp only [c1', Bool.false_and] at q11
            exact q11
        rw [List.map_id', filter_ints] at eD
        have s010 := s09.trans s10
        have cut := Cut.at_ ok.asc hx (ahead j x hx hsj) asct
        refine ⟨t, v, M, D, l.take i ++ [x], _, rfl, TrAt.fz (Fz.of (ex := []) s010) t v ht, .inr ((Fz.of (ex := []) s10).tup hM), .inl (SqL.of eD), ok.deep, ok.wf, ok.leaves, ok.len, fun G H11 s11 nG eG => ?_⟩
        refine ⟨G, _, 0, _, rfl, rfl, SqT.inj eG, rfl, _, _, rfl, rfl, ?_⟩
        have many := cut.many ok.wf ok.perm ok.asc
        have hdr : ns.drop (max s (min j qc)) = x :: ns.drop (j + 1) := by
          rw [show max s (min j qc) = j by omega]
          exact drop_cons hx
        rw [hdr, lexg_cons] at fr
        refine ⟨f + (blk (fun s => t.goes s) (l.take i ++ [x]) (ns.drop (j + 1))).length, some (.int x), some (.ref M), ?_, s010.trans s11, s11 _ _ (s10 _ _ eR9), ?_⟩
        · have e : (f : Int) + (t.sides (l.take i ++ [x]) (ns.filter fun o => decide (o < x) && !decide (o ∈ l.take i ++ [x]))).1 = ((f + (blk (fun s => t.goes s) (l.take i ++ [x]) (ns.drop (j + 1))).length : Nat) : Int) := by
            rw [many]
            rfl
          rw [← e]
          rfl
        · rw [show max s (min (j + 1) qc) = j + 1 by omega]
          exact fr.right
      have skip : ¬ (s ≤ j ∧ j < qc) → ∃ (f' : Nat) (x6 x7' : Option V), [some v, some (.ref a), some (.ref R), some (.int f), some (.int i), some (.int c), some (.int x), x7, none] = [some v, some (.ref a), some (.ref R), some (.int f'), some (.int i), some (.int c), x6, x7', none] ∧ Same H H7 ∧ H7 R = some (.lst (ns.map V.int)) ∧
          From (lots t ns) f' (lexg (fun s => t.goes s) (l.take i) (ns.drop (max s (min (j + 1) qc)))) := fun no => ⟨f, some (.int x), x7, rfl, s7, eR7, by rw [show max s (min (j + 1) qc) = max s (min j qc) by omega]; exact fr⟩
      refine ⟨_, rfl, _, rfl, x, c, rfl, rfl, _, rfl, ?_⟩
      refine ite2 (fun c1 => ?_) (fun c1 => ?_)
      · have hjq : j < qc := (asc_index ok.asc hx hqc).mp (of_decide_eq_true c1)
        refine ⟨_, rfl, rfl, _, rfl, ?_⟩
        refine ite2 (fun c2 => ?_) (fun c2 => ?_)
        · have e0 : i = 0 := by
            have := V.int.inj (of_decide_eq_true c2)
            omega
          exact step ⟨by rw [i0 e0]; exact Nat.zero_le _, hjq⟩
        · have e0 : 0 < i := Nat.pos_of_ne_zero fun e => c2 (decide_eq_true (by rw [e]; rfl))
          obtain ⟨c', h1, h2, h3⟩ := i1 e0
          refine ⟨_, rfl, _, rfl, _, rfl, _, _, rfl, rfl, a, _, _, .int c', rfl, rfl, (Fz.of (ex := []) s7).tup hl, ?_, x, c', rfl, rfl, _, rfl, ?_⟩
          · rw [show (i : Int) - 1 = ((i - 1 : Nat) : Int) by omega]
            refine atI_nat ?_
            rw [List.getElem?_map, h3]
            rfl
          · refine ite2 (fun c3 => ?_) (fun c3 => ?_)
            · have := (asc_index ok.asc h2 hx).mp (of_decide_eq_true c3)
              exact step ⟨by omega, hjq⟩
            · refine skip fun z => c3 (decide_eq_true ((asc_index ok.asc h2 hx).mpr (by omega)))
      · exact skip fun z => c1 (decide_eq_true ((asc_index ok.asc hx hqc).mpr z.2))
    · rintro σ H7 ⟨f, x6, x7, rfl, s7, eR7, fr⟩
      rw [List.length_map, show max s (min ns.length qc) = qc by omega, drop_cons hqc, lexg_cons] at fr
      refine ⟨f, qc + 1, _, _, _, _, rfl, s7, eR7, hql, ?_, fun e => absurd e (Nat.succ_ne_zero i), fun _ => ⟨c, Nat.succ_pos _, hqc, hc⟩⟩
      rw [take_more hc]
      exact fr.left
  · rintro σ H3 ⟨f, s, x4, x5, x6, x7, rfl, s3, eR3, hs, fr, i0, i1⟩
    rw [List.length_map, List.take_length, blk_go lo.go] at fr
    have h0 := fr 0 l rfl
    have e := place_one (lots_sorted t ns ok.asc) h0 hk
    refine ⟨_, rfl, ?_⟩
    have := q H3 s3
    rw [← e] at this
    exact this
end K19

namespace K19
open PySem PySem.Spec PyProof.Rows L2

/-! ### _law_told -/
/-- ["unfit"] new at r -/
def IsUnfit (H : Hp) (r : Addr) : Prop := H r = some (.lst [.str "unfit"])
def sp_ltold (K : PySem.W.Frag) : Sp := fun vs H Q _ => ∃ (t : Tr) (row : List Int) (v x : V) (n : String) (way : Int), vs = [v, x, .int way] ∧ TrAt K H t v ∧ TreeOk t row ∧ AnyV K H x n ∧ 0 ≤ way ∧ way ≤ 3 ∧
  (way < 2 → (∀ (k : Nat) (l : List Int), x = .int k → (lots t row)[k]? = some l → ∀ (r c : Addr) (H' : Hp), Same H H' → H r = none → SqT K H' c (l.map V.int) → H' r = some (.lst [.str "told", .ref c]) → Q (.ref r) H') ∧
    (isPl (lots t row).length x = false → ∀ (r : Addr) (H' : Hp), Same H H' → H r = none → IsUnfit H' r → Q (.ref r) H')) ∧
  (2 ≤ way → (n ≠ "tuple" ∧ ∀ (r : Addr) (H' : Hp), Same H H' → H r = none → IsUnfit H' r → Q (.ref r) H') ∨
    (n = "tuple" ∧ ∃ (a : Addr) (xs : List V), x = .ref a ∧ SqT K H a xs ∧ (∀ y ∈ xs, ∃ m, AnyV K H y m) ∧ xs.length ≤ 1000 ∧
      (∀ (l : List Int) (k : Nat), xs = l.map V.int → LotOk t row l → (lots t row)[k]? = some l → ∀ (r : Addr) (H' : Hp), Same H H' → H r = none → H' r = some (.lst [.str "told", .int k]) → Q (.ref r) H') ∧
      ((¬ ∃ l, xs = l.map V.int ∧ LotOk t row l) → ∀ (r : Addr) (H' : Hp), Same H H' → H r = none → IsUnfit H' r → Q (.ref r) H')))
theorem law_ltold {K : PySem.W.Frag} {w : World} {U TE : Addr} (hex : PySem.W.exmOne K (.ref U) (.ref U) = some true) (vs : List V) (H : Hp) (Q : VK) (E : XK) (h : sp_ltold K vs H Q E) : t_ltold K w (sp_gat K U) (sp_gnum K U) U TE { nx := fun _ H' => Q .non H', rt := Q } (start N_ltold vs) H := by
  obtain ⟨t, row, v, x, n, way, rfl, ht, ok, ax, hw0, hw3, q1, q2⟩ := h
  have unf : ∀ {σ : L2.St}, (∀ (r : Addr) (H' : Hp), Same H H' → H r = none → IsUnfit H' r → Q (.ref r) H') → ∀ H', Same H H' →
      wMany K (fun _ _ _ _ => False) { nx := fun _ H' => Q .non H', rt := Q } [((.ref U), fun _ _ _ => (tRet (tLst (tCons (tC (.str "unfit")) tNil)))), ((.ref TE), fun _ _ _ => (tRet (tLst (tCons (tC (.str "other")) tNil))))] (.ref U) none σ H' := fun {σ} q H' s =>
    ⟨true, hex, fun _ a _ => ⟨(by show 1 ≤ sizeLine; decide), fun r nr => q r _ (s.trans (new_same _ nr)) (s.free nr) upd_same⟩, fun h => nomatch h⟩
  refine ⟨_, rfl, way, 2, rfl, rfl, _, rfl, ?_⟩
  refine ite2 (fun c => ?_) (fun c => ?_)
  · obtain ⟨g1, g2⟩ := q1 (of_decide_eq_true c)
    have two : ∀ H', Same H H' → ∀ y, (∃ c l, y = .ref c ∧ SqT K H' c (List.map V.int l) ∧ ∃ k : Nat, x = .int k ∧ (lots t row)[k]? = some l) → [V.str "told", y].length ≤ sizeLine ∧ ∀ p, H' p = none → Q (.ref p) (upd H' p (.lst [.str "told", y])) := by
      rintro H' s y ⟨c, l, rfl, hc, k, e, hk⟩
      refine ⟨(by show 2 ≤ sizeLine; decide), fun p np => g1 k l e hk p c _ (s.trans (new_same _ np)) (s.free np) ((Fz.new (ex := []) np).tup hc) upd_same⟩
    refine ⟨_, rfl, rfl, _, rfl, ?_⟩
    refine ite2 (fun c2 => ?_) (fun c2 => ?_)
    · refine ⟨_, rfl, _, rfl, t, row, v, x, n, rfl, ht, ok, ax, fun k l e hk c H' s hc => ?_, fun e => unf (g2 e)⟩
      exact two H' s _ ⟨c, l, rfl, hc, k, e, hk⟩
    · refine ⟨_, rfl, _, rfl, t, row, v, x, n, rfl, ht, ok, ax, fun k l e hk c H' s hc => ?_, fun e => unf (g2 e)⟩
      exact two H' s _ ⟨c, l, rfl, hc, k, e, hk⟩
  · have hw2 : 2 ≤ way := by
      have : ¬ (way < 2) := fun z => c (decide_eq_true z)
      omega
    have two : ∀ H' (k : Nat), Same H H' → (∀ (r : Addr) (H' : Hp), Same H H' → H r = none → H' r = some (.lst [.str "told", .int k]) → Q (.ref r) H') → [V.str "told", V.int k].length ≤ sizeLine ∧ ∀ p, H' p = none → Q (.ref p) (upd H' p (.lst [.str "told", .int k])) := fun H' k s q =>
      ⟨(by show 2 ≤ sizeLine; decide), fun p np => q p _ (s.trans (new_same _ np)) (s.free np) upd_same⟩
    refine ⟨_, rfl, rfl, _, rfl, ?_⟩
    have common : ∀ (E' : XK) (Q' : VK), (∀ (k : Nat) H', Same H H' → (∀ (r : Addr) (H' : Hp), Same H H' → H r = none → H' r = some (.lst [.str "told", .int k]) → Q (.ref r) H') → Q' (.int k) H') → ((∀ (r : Addr) (H' : Hp), Same H H' → H r = none → IsUnfit H' r → Q (.ref r) H') → ∀ H', Same H H' → E' (.ref U) none H') →
        sp_gnum K U [v, x] H Q' E' := by
      intro E' Q' hQ hE
      refine ⟨t, row, v, x, n, rfl, ht, ok, ax, ?_⟩
      rcases q2 hw2 with ⟨hn, q⟩ | ⟨hn, a, xs, ea, hx, han, hl, g1, g2⟩
      · exact .inl ⟨hn, hE q⟩
      · exact .inr ⟨hn, a, xs, ea, hx, han, hl, fun l k e lo hk H' s => hQ k H' s (g1 l k e lo hk), fun no => hE (g2 no)⟩
    refine ite2 (fun c2 => ?_) (fun c2 => ?_)
    · refine ⟨_, rfl, _, rfl, ?_⟩
      dsimp only [tNil, List.reverse_cons, List.reverse_nil, List.nil_append, List.cons_append]
      exact common _ _ (fun k H' s q => two H' k s q) (fun q => unf q)
    · refine ⟨_, rfl, _, rfl, ?_⟩
      dsimp only [tNil, List.reverse_cons, List.reverse_nil, List.nil_append, List.cons_append]
      exact common _ _ (fun k H' s q => two H' k s q) (fun q => unf q)
theorem len_ltold {K : PySem.W.Frag} : ∀ vs H Q E, sp_ltold K vs H Q E → vs.length = ["_law_tree_here", "_law_thing", "_law_way"].length := fun vs H Q E h => by
  obtain ⟨t, row, v, x, n, way, rfl, _⟩ := h
  rfl

/-! ### _law_odds -/
def sp_lodds (K : PySem.W.Frag) : Sp := fun vs H Q _ => ∃ (many : Int), vs = [.int many] ∧ 0 ≤ many ∧
  ∀ (r : Addr) (xs : List V) (H' : Hp), Same H H' → H r = none → H' r = some (.lst xs) → xs.length = 15 → (∀ x ∈ xs, isPl many x = false ∧ ∃ n, AnyV K H' x n ∧ ∀ a, x = .ref a → H a = none) → Q (.ref r) H'
theorem law_lodds {K : PySem.W.Frag} {w : World} (vs : List V) (H : Hp) (Q : VK) (E : XK) (h : sp_lodds K vs H Q E) : t_lodds K w { nx := fun _ H' => Q .non H', rt := Q } (start N_lodds vs) H := by
  obtain ⟨many, rfl, hm, q⟩ := h
  refine ⟨1, rfl, _, rfl, _, rfl, 10, 20, rfl, rfl, ⟨by decide, by decide, by decide⟩, _, _, rfl, rfl, (by show 1 ≤ sizeLine; decide), fun a1 n1 => ⟨(by show 1 ≤ sizeLine; decide), fun a2 n2 => fun a3 n3 => ⟨(by show 1 ≤ sizeLine; decide), fun a4 n4 => ⟨(by show 1 ≤ sizeLine; decide), fun a5 n5 => ⟨(by show 1 ≤ sizeLine; decide), fun a6 n6 => ⟨(by show 0 ≤ sizeLine; decide), fun a7 n7 => ⟨10, 30, rfl, rfl, ⟨by decide, by decide, by decide⟩, _, rfl, (by show 15 ≤ sizeLine; decide), fun r nr => ?_⟩⟩⟩⟩⟩⟩⟩
  have s1 : Same H (upd H a1 (.lst [.int 0])) := new_same _ n1
  have e1 := upd_same (H := H) (a := a1) (o := .lst [.int 0])
  revert n2 n3 n4 n5 n6 n7 nr s1 e1
  generalize upd H a1 (.lst [.int 0]) = H1
  intro n2 n3 n4 n5 n6 n7 nr s1 e1
  have s2 : Same H1 (upd H1 a2 (.tup [.int 0])) := new_same _ n2
  have e2 := upd_same (H := H1) (a := a2) (o := .tup [.int 0])
  revert n3 n4 n5 n6 n7 nr s2 e2
  generalize upd H1 a2 (.tup [.int 0]) = H2
  intro n3 n4 n5 n6 n7 nr s2 e2
  have s3 : Same H2 (upd H2 a3 (.dK [])) := new_same _ n3
  have e3 := upd_same (H := H2) (a := a3) (o := .dK [])
  revert n4 n5 n6 n7 nr s3 e3
  generalize upd H2 a3 (.dK []) = H3
  intro n4 n5 n6 n7 nr s3 e3
  have s4 : Same H3 (upd H3 a4 (.tup [.str "0"])) := new_same _ n4
  have e4 := upd_same (H := H3) (a := a4) (o := .tup [.str "0"])
  revert n5 n6 n7 nr s4 e4
  generalize upd H3 a4 (.tup [.str "0"]) = H4
  intro n5 n6 n7 nr s4 e4
  have s5 : Same H4 (upd H4 a5 (.tup [.int 0])) := new_same _ n5
  revert n6 n7 nr s5
  generalize upd H4 a5 (.tup [.int 0]) = H5
  intro n6 n7 nr s5
  have s6 : Same H5 (upd H5 a6 (.tup [.ref a5])) := new_same _ n6
  have e6 := upd_same (H := H5) (a := a6) (o := .tup [.ref a5])
  revert n7 nr s6 e6
  generalize upd H5 a6 (.tup [.ref a5]) = H6
  intro n7 nr s6 e6
  have s7 : Same H6 (upd H6 a7 (.lst [])) := new_same _ n7
  have e7 := upd_same (H := H6) (a := a7) (o := .lst [])
  revert nr s7 e7
  generalize upd H6 a7 (.lst []) = H7
  intro nr s7 e7
  have f2 := s1.free n2
  have f3 := s1.free (s2.free n3)
  have f4 := s1.free (s2.free (s3.free n4))
  have f6 := s1.free (s2.free (s3.free (s4.free (s5.free n6))))
  have f7 := s1.free (s2.free (s3.free (s4.free (s5.free (s6.free n7)))))
  have s8 := new_same (.lst [.non, .bl true, .bl false, .str "0", .int (-1), .int many, .int (many + 10 ^ 20), .ref a1, .ref a2, .ref a3, .ref a4, .str "", .ref a6, .ref a7, .int (-(10 ^ 30))]) nr
  have k7 := s8
  have k6 := s7.trans k7
  have k5 := s6.trans k6
  have k4 := s5.trans k5
  have k3 := s4.trans k4
  have k2 := s3.trans k3
  have k1 := s2.trans k2
  refine q r _ _ (s1.trans k1) ((s1.trans (s2.trans (s3.trans (s4.trans (s5.trans (s6.trans s7)))))).free nr) upd_same rfl ?_
  intro x hx
  simp only [List.mem_cons, List.not_mem_nil, or_false] at hx
  rcases hx with rfl | rfl | rfl | rfl | rfl | rfl | rfl | rfl | rfl | rfl | rfl | rfl | rfl | rfl | rfl
  · exact ⟨rfl, _, any_non, fun a e => nomatch e⟩
  · exact ⟨rfl, _, any_bl _, fun a e => nomatch e⟩
  · exact ⟨rfl, _, any_bl _, fun a e => nomatch e⟩
  · exact ⟨rfl, _, any_str _, fun a e => nomatch e⟩
  · exact ⟨rfl, _, any_int _, fun a e => nomatch e⟩
  · refine ⟨?_, _, any_int _, fun a e => nomatch e⟩
    simp [isPl]
  · refine ⟨?_, _, any_int _, fun a e => nomatch e⟩
    have : ¬ (many + (10 : Int) ^ Int.toNat 20 < many) := by
      rw [show (10 : Int) ^ Int.toNat 20 = 100000000000000000000 by decide]
      omega
    simp only [isPl, decide_eq_false this, Bool.and_false]
  · exact ⟨rfl, _, any_lst (k1 _ _ e1), fun a e => by cases e; exact n1⟩
  · exact ⟨rfl, _, any_tup (K := K) (SqT.inj (k2 _ _ e2)), fun a e => by cases e; exact f2⟩
  · exact ⟨rfl, _, any_dK (k3 _ _ e3), fun a e => by cases e; exact f3⟩
  · exact ⟨rfl, _, any_tup (K := K) (SqT.inj (k4 _ _ e4)), fun a e => by cases e; exact f4⟩
  · exact ⟨rfl, _, any_str _, fun a e => nomatch e⟩
  · exact ⟨rfl, _, any_tup (K := K) (SqT.inj (k6 _ _ e6)), fun a e => by cases e; exact f6⟩
  · exact ⟨rfl, _, any_lst (k7 _ _ e7), fun a e => by cases e; exact f7⟩
  · refine ⟨?_, _, any_int _, fun a e => nomatch e⟩
    have : ¬ ((0 : Int) ≤ -((10 : Int) ^ Int.toNat 30)) := by decide
    simp only [isPl, decide_eq_false this, Bool.false_and]
theorem len_lodds {K : PySem.W.Frag} : ∀ vs H Q E, sp_lodds K vs H Q E → vs.length = ["_law_many"].length := fun vs H Q E h => by
  obtain ⟨m, rfl, _⟩ := h
  rfl
end K19

namespace K19
open PySem PySem.Spec PyProof.Rows L2

/-! ### new things -/
theorem made {H H' : Hp} {z : Addr} {o : HO} (h : upd H z o = H') (n : H z = none) : Same H H' ∧ H' z = some o := by
  subst h
  exact ⟨new_same _ n, upd_same⟩
theorem newL0 {H : Hp} {xs : List V} {Q : VK} (q : ∀ (p : Addr) (H' : Hp), Same H H' → H p = none → H' p = some (.lst xs) → Q (.ref p) H') : ∀ p, H p = none → Q (.ref p) (upd H p (.lst xs)) := fun p np => q p _ (new_same _ np) np upd_same
theorem newL {H : Hp} {xs : List V} {Q : VK} (hl : xs.length ≤ sizeLine) (q : ∀ (p : Addr) (H' : Hp), Same H H' → H p = none → H' p = some (.lst xs) → Q (.ref p) H') : xs.length ≤ sizeLine ∧ ∀ p, H p = none → Q (.ref p) (upd H p (.lst xs)) := ⟨hl, newL0 q⟩
theorem newT0 {H : Hp} {xs : List V} {Q : VK} (q : ∀ (p : Addr) (H' : Hp), Same H H' → H p = none → H' p = some (.tup xs) → Q (.ref p) H') : ∀ p, H p = none → Q (.ref p) (upd H p (.tup xs)) := fun p np => q p _ (new_same _ np) np upd_same
theorem newT {H : Hp} {xs : List V} {Q : VK} (hl : xs.length ≤ sizeLine) (q : ∀ (p : Addr) (H' : Hp), Same H H' → H p = none → H' p = some (.tup xs) → Q (.ref p) H') : xs.length ≤ sizeLine ∧ ∀ p, H p = none → Q (.ref p) (upd H p (.tup xs)) := ⟨hl, newT0 q⟩
theorem cut_ints (row : List Int) (lo hi : Option Int) : ∃ m : List Int, cutV (row.map V.int) lo hi = m.map V.int ∧ m.length ≤ row.length := by
  have h := cutV_length (row.map V.int) lo hi
  unfold cutV at h ⊢
  rw [← List.map_drop, ← List.map_take] at h ⊢
  exact ⟨_, rfl, by simpa using h⟩
theorem sl_from1 {K : PySem.W.Frag} {H : Hp} {a : Addr} {l : List Int} {k : Int} {Q : VK} (h0 : 0 < k) (h : SqT K H a (l.map V.int)) (q : ∀ (p : Addr) (H' : Hp), Same H H' → SqT K H' p ((l.drop k.toNat).map V.int) → Q (.ref p) H') : rSlA K (.ref a) (some k) none H Q := by
  refine ⟨a, _, rfl, h, fun e => ?_, fun _ p np => ?_⟩
  · have e1 := e.1
    have e3 : HT.sIx (l.map V.int).length 0 (some k) = min k.toNat l.length := by
      show (if k < 0 then (k + ((l.map V.int).length : Int)).toNat else min k.toNat (l.map V.int).length) = _
      rw [if_neg (by omega), List.length_map]
    rw [e3] at e1
    refine q a H (Same.refl H) ?_
    have : l.length = 0 := by omega
    rw [List.length_eq_zero_iff.mp this, List.drop_nil]
    rw [List.length_eq_zero_iff.mp this] at h
    exact h
  · rw [cut_from (by omega), ← List.map_drop]
    exact q p _ (new_same _ np) (SqT.inj upd_same)
theorem sl_last {K : PySem.W.Frag} {H : Hp} {a : Addr} {l : List Int} {x : Int} {Q : VK} (h : SqT K H a ((l ++ [x]).map V.int)) (q : ∀ (p : Addr) (H' : Hp), Same H H' → SqT K H' p (([x] : List Int).map V.int) → Q (.ref p) H') : rSlA K (.ref a) (some (-1)) none H Q := by
  have e3 : HT.sIx ((l ++ [x]).map V.int).length 0 (some (-1)) = l.length := by
    show (if (-1 : Int) < 0 then ((-1 : Int) + (((l ++ [x]).map V.int).length : Int)).toNat else min (-1 : Int).toNat ((l ++ [x]).map V.int).length) = _
    rw [if_pos (by decide), List.length_map, List.length_append, List.length_singleton]
    omega
  refine ⟨a, _, rfl, h, fun e => ?_, fun _ p np => ?_⟩
  · have e1 := e.1
    rw [e3] at e1
    rw [List.length_eq_zero_iff.mp e1, List.nil_append] at h
    exact q a H (Same.refl H) h
  · have e : cutV ((l ++ [x]).map V.int) (some (-1)) none = ([x] : List Int).map V.int := by
      unfold cutV
      rw [e3, HT.sIx_none, ← List.map_drop, List.drop_append_of_le_length (Nat.le_refl _), List.drop_length, List.nil_append, List.take_of_length_le (by simp)]
    rw [e]
    exact q p _ (new_same _ np) (SqT.inj upd_same)
theorem walk_rg {n : Nat} : Walk (Itr 0 n) ((rg n).map V.int).length (fun _ => True) (YAt ((rg n).map V.int)) := by
  rw [List.length_map, rg_length]
  refine (walk_range (lo := 0) (n := n)).mono (fun _ h => h) fun i H x H' hi _ y => ⟨y.1, ?_⟩
  rw [y.2]
  unfold rg
  rw [List.getElem?_map, List.getElem?_map, List.getElem?_range hi]
  show some (V.int ((i : Nat) : Int)) = some (V.int (0 + (i : Nat)))
  rw [Int.zero_add]
theorem others_len {row : List Int} (h : row.Pairwise (· < ·)) (hb : ∀ x ∈ row, 0 ≤ x ∧ x ≤ 99) : ((rg 100).filter fun n => !decide (n ∈ row)).length + row.length = 100 := by
  have asc : (rg 100).Pairwise (· < ·) := by
    unfold rg
    exact List.Pairwise.map _ (fun a b h => by omega) List.pairwise_lt_range
  have e := asc_filter h asc fun x hx => by
    have := hb x hx
    unfold rg
    exact List.mem_map.mpr ⟨x.toNat, List.mem_range.mpr (by omega), by omega⟩
  have key : ∀ l : List Int, (l.filter fun x => decide (x ∈ row)).length + (l.filter fun x => !decide (x ∈ row)).length = l.length := by
    intro l
    induction l with
    | nil => rfl
    | cons y l ih =>
      by_cases c : y ∈ row
      · rw [List.filter_cons_of_pos (by simp [c]), List.filter_cons_of_neg (by simp [c]), List.length_cons, List.length_cons]
        omega
      · rw [List.filter_cons_of_neg (by simp [c]), List.filter_cons_of_pos (by simp [c]), List.length_cons, List.length_cons]
        omega
  have l1 := key (rg 100)
  rw [e, rg_length] at l1
  omega
theorem lcfilA {α : Type} {J : It} {zs : List α} {f : α → V} {G : Hp → Prop} {tt : TT} {te : TE} {x : Nat} {σ : L2.St} {H : Hp} {D : Addr} {Qd : Hp → Prop} (w : Walk J zs.length G (YAt (zs.map f))) (hG : ∀ H', Same H H' → G H') (hl : zs.length ≤ 1000000) (hw : ∀ v, wipe ((wipe σ [x]).set x v) [x] = wipe σ [x])
    (p : α → Bool) (g : α → V) (ht : ∀ (z : α) (H2 : Hp) (Q2 : Bool → Hp → Prop), z ∈ zs → Same H H2 → (∀ H3, Same H2 H3 → Q2 (p z) H3) → tt ((wipe σ [x]).set x (some (f z))) H2 Q2)
    (he : ∀ (z : α) (H2 : Hp) (Q2 : VK), z ∈ zs → Same H H2 → p z = true → Q2 (g z) H2 → te ((wipe σ [x]).set x (some (f z))) H2 Q2) (nD : H D = none) (q : ∀ H', Same H H' → H' D = some (.lst ((zs.filter p).map g)) → Qd H') :
    ∃ W : Nat → Nat → Hp → Prop, (∃ m, W 0 m (upd H D (.lst []))) ∧ ∀ i m H, W i m H →
      (J.stop i H ∧ Qd H) ∨ (J.go i H ∧ ∃ Nx : Hp → Prop, (∀ H', Nx H' → ∃ m', m' < m ∧ W (i + 1) m' H') ∧ ∀ v H', J.yld i H v H' → (gName x) v (wipe σ [x]) H' fun σ2 H2 => wipe σ2 [x] = wipe σ [x] ∧ tt σ2 H2 fun b H3 =>
        if b = true then te σ2 H3 fun y H4 => ∃ acc, H4 D = some (.lst acc) ∧ acc.length < sizeLine ∧ Nx (upd H4 D (.lst (acc ++ [y]))) else Nx H3) := by
  refine lc_it w (fun i H2 => Same H H2 ∧ H2 D = some (.lst (((zs.take i).filter p).map g))) ⟨new_same _ nD, upd_same⟩ (fun i H2 _ hP => hG H2 hP.1) ?_ ?_
  · rintro i v H2 _ hi ⟨s2, e2⟩ ⟨rfl, hv⟩
    rw [List.getElem?_map] at hv
    cases hz : zs[i]? with
    | none =>
      rw [hz] at hv
      cases hv
    | some z =>
      rw [hz] at hv
      cases hv
      have hm := List.mem_of_getElem? hz
      refine ⟨hw _, ht z _ _ hm s2 fun H3 s3 => ?_⟩
      have s23 := s2.trans s3
      refine ite2 (fun c => ?_) (fun c => ?_)
      · refine he z _ _ hm s23 c ⟨_, s3 _ _ e2, ?_, same_grow nD s23, ?_⟩
        · rw [List.length_map]
          have h1 := List.length_filter_le p (zs.take i)
          rw [List.length_take] at h1
          exact Nat.lt_of_le_of_lt (by omega : _ ≤ 1000000) (by decide)
        · rw [upd_same, take_more hz, List.filter_append, List.map_append, List.filter_cons_of_pos c]
          rfl
      · refine ⟨s23, ?_⟩
        rw [s3 _ _ e2, take_more hz, List.filter_append, List.filter_cons_of_neg c]
        simp
  · rintro H2 ⟨s2, e2⟩
    rw [List.take_length] at e2
    exact q H2 s2 e2

/-! ### values that are no lot -/
theorem AnyV.fzX {K : PySem.W.Frag} {ex : List Addr} {H H' : Hp} {v : V} {n : String} (s : Fz ex H H') (off : n ∉ ["list", "dict"] ∨ ∀ a, v = .ref a → a ∉ ex) (a : AnyV K H v n) : AnyV K H' v n := by
  obtain ⟨t, k⟩ := a
  refine ⟨?_, k⟩
  have mvL : ∀ {a o}, v = .ref a → n ∈ ["list", "dict"] → H a = some o → H' a = some o := fun {a o} e m h => s a o h (.inl (off.elim (fun z => absurd m z) fun z => z a e))
  cases t with
  | base b =>
    refine .base ?_
    cases b with
    | non => exact .non
    | bl x => exact .bl x
    | int i => exact .int i
    | str x => exact .str x
    | flt x => exact .flt x
    | lst e => exact .lst (mvL rfl (by simp) e)
    | frz e => exact .frz (s _ _ e (.inr rfl))
    | tup e => exact .tup (s _ _ e (.inr rfl))
    | dK e => exact .dK (mvL rfl (by simp) e)
    | dT e => exact .dT (mvL rfl (by simp) e)
  | byt b => exact .byt b
  | set e => simp at k
  | kList e c => exact .kList e c
  | kTuple e c => exact .kTuple e c
  | kDict e c => exact .kDict e c
  | fTuple e => exact .fTuple (s _ _ e (.inr rfl))
  | fDict e => exact .fDict (s _ _ e (.inr rfl))
/-- no lot that the tree takes; ex: what may change and is not it -/
def OddV (K : PySem.W.Frag) (H : Hp) (ex : List Addr) (t : Tr) (row : List Int) (x : V) : Prop := ∃ n, AnyV K H x n ∧ (n ∉ ["list", "dict"] ∨ ∀ a, x = .ref a → a ∉ ex) ∧
  (n ≠ "tuple" ∨ (n = "tuple" ∧ ∃ (a : Addr) (xs : List V), x = .ref a ∧ SqT K H a xs ∧ (∀ y ∈ xs, ∃ m, AnyV K H y m ∧ m ∉ ["list", "dict"]) ∧ xs.length ≤ 1000 ∧ ¬ ∃ l, xs = l.map V.int ∧ LotOk t row l))
theorem OddV.fz {K : PySem.W.Frag} {ex ex' : List Addr} {H H' : Hp} {t : Tr} {row : List Int} {x : V} (s : Fz ex' H H') (sub : ∀ a, x = .ref a → a ∈ ex' → a ∈ ex) (o : OddV K H ex t row x) : OddV K H' ex t row x := by
  obtain ⟨n, h1, h2, h3⟩ := o
  refine ⟨n, h1.fzX s (h2.imp id fun h a e m => h a e (sub a e m)), h2, h3.imp id ?_⟩
  rintro ⟨hn, a, xs, e, k1, k2, k3, k4⟩
  refine ⟨hn, a, xs, e, s.tup k1, fun y hy => ?_, k3, k4⟩
  obtain ⟨m, am, hm⟩ := k2 y hy
  exact ⟨m, am.fzX s (.inl hm), hm⟩
theorem OddV.same {K : PySem.W.Frag} {ex : List Addr} {H H' : Hp} {t : Tr} {row : List Int} {x : V} (s : Same H H') (o : OddV K H ex t row x) : OddV K H' ex t row x := o.fz (ex' := []) (Fz.of s) fun a _ m => absurd m List.not_mem_nil
theorem odd_plain {K : PySem.W.Frag} {H : Hp} {ex : List Addr} {t : Tr} {row : List Int} {x : V} {n : String} (a : AnyV K H x n) (h1 : n ∉ ["list", "dict"]) (h2 : n ≠ "tuple") : OddV K H ex t row x := ⟨n, a, .inl h1, .inl h2⟩
theorem odd_tup {K : PySem.W.Frag} {H : Hp} {ex : List Addr} {t : Tr} {row : List Int} {a : Addr} {xs : List V} (h : SqT K H a xs) (hi : ∀ y ∈ xs, ∃ m, AnyV K H y m ∧ m ∉ ["list", "dict"]) (hl : xs.length ≤ 1000) (no : ¬ ∃ l, xs = l.map V.int ∧ LotOk t row l) : OddV K H ex t row (.ref a) :=
  ⟨"tuple", any_tup h, .inl (by decide), .inr ⟨rfl, a, xs, rfl, h, hi, hl, no⟩⟩
theorem int_items {K : PySem.W.Frag} {H : Hp} (l : List Int) : ∀ y ∈ l.map V.int, ∃ m, AnyV K H y m ∧ m ∉ ["list", "dict"] := fun y hy => by
  obtain ⟨i, _, rfl⟩ := List.mem_map.mp hy
  exact ⟨"int", any_int i, by decide⟩
theorem odd_ints {K : PySem.W.Frag} {H : Hp} {ex : List Addr} {t : Tr} {row : List Int} {a : Addr} {l : List Int} (h : SqT K H a (l.map V.int)) (hl : l.length ≤ 1000) (no : ¬ LotOk t row l) : OddV K H ex t row (.ref a) :=
  odd_tup h (int_items l) (by rw [List.length_map]; exact hl) fun ⟨l', e, lo⟩ => no (by rw [map_int_inj e]; exact lo)
theorem odd_lst {K : PySem.W.Frag} {H : Hp} {ex : List Addr} {t : Tr} {row : List Int} {a : Addr} {xs : List V} (h : H a = some (.lst xs)) (o : a ∉ ex) : OddV K H ex t row (.ref a) := ⟨"list", any_lst h, .inr fun b e => by cases e; exact o, .inl (by decide)⟩
theorem odd_dict {K : PySem.W.Frag} {H : Hp} {ex : List Addr} {t : Tr} {row : List Int} {a : Addr} {xs : List (Key × V)} (h : H a = some (.dK xs)) (o : a ∉ ex) : OddV K H ex t row (.ref a) := ⟨"dict", any_dK h, .inr fun b e => by cases e; exact o, .inl (by decide)⟩
/-- ["unfit"] beside ["unfit"] -/
theorem dp_unfit {K : PySem.W.Frag} {H : Hp} {r : Addr} (h : IsUnfit H r) : Dp K H (.ref r) (.list [.str "unfit"]) := .lst (SqL.of h) (.cons (.str _) .nil)
theorem unfit_ne {K : PySem.W.Frag} {H : Hp} {r z : Addr} {Q : VK} (h : IsUnfit H r) (hz : IsUnfit H z) (q : Q (.bl false) H) : rNeD K (.ref r) (.ref z) H Q := ⟨_, _, dp_unfit h, dp_unfit hz, by decide +kernel, by decide +kernel, by
  rw [show (!PyData.eqv (.list [.str "unfit"]) (.list [.str "unfit"])) = false by decide +kernel]
  exact q⟩
theorem unfit_eq {K : PySem.W.Frag} {H : Hp} {r z : Addr} {Q : VK} (h : IsUnfit H r) (hz : IsUnfit H z) (q : Q (.bl true) H) : rEqD K (.ref r) (.ref z) H Q := ⟨_, _, dp_unfit h, dp_unfit hz, by decide +kernel, by decide +kernel, by
  rw [show PyData.eqv (.list [.str "unfit"]) (.list [.str "unfit"]) = true by decide +kernel]
  exact q⟩
end K19

namespace K19
open PySem PySem.Spec PyProof.Rows L2

def sp_lodd (K : PySem.W.Frag) : Sp := fun vs H Q _ => ∃ (p g : Addr) (t : Tr) (row : List Int) (v : V) (R A : Addr) (l : List Int), vs = [.ref p, v, .ref R, .ref A, .int (lots t row).length] ∧ Bag H p g ∧ TrAt K H t v ∧ TreeOk t row ∧ H R = some (.lst (row.map V.int)) ∧ Off p g R ∧ row.length ≤ 24 ∧
  SqT K H A (l.map V.int) ∧ LotOk t row l ∧ ∀ H', Fz [p, g] H H' → Bag H' p g → Q (.bl true) H'
theorem len_lodd {K : PySem.W.Frag} : ∀ vs H Q E, sp_lodd K vs H Q E → vs.length = ["_law_bag_here", "_law_tree_here", "_law_row", "_law_some", "_law_many"].length := fun vs H Q E h => by
  obtain ⟨p, g, t, row, v, R, A, l, rfl, _⟩ := h
  rfl
theorem small_text {i : Int} (h : 0 ≤ i ∧ i ≤ 99) : i.natAbs.log2 < 1920 := by
  have : i.natAbs < 2 ^ 1920 := Nat.lt_of_lt_of_le (by omega : i.natAbs < 2 ^ 7) (Nat.pow_le_pow_right (by decide) (by decide))
  by_cases e : i.natAbs = 0
  · rw [e]
    decide
  · exact (Nat.log2_lt e).mpr this
set_option maxHeartbeats 16000000 in
theorem law_lodd {K : PySem.W.Frag} {w : World} (vs : List V) (H : Hp) (Q : VK) (E : XK) (h : sp_lodd K vs H Q E) : t_lodd K w (sp_ltold K) (sp_ldraw K) (sp_lpick K) (sp_lodds K) (sp_goes K 8) { nx := fun _ H' => Q .non H', rt := Q } (start N_lodd vs) H := by
  obtain ⟨p, g, t, row, v, R, A, l, rfl, hb, ht, ok, hR, offR, hrow, hA, lo, q⟩ := h
  have few : t.leaves.length ≤ 1000 := by have := ok.len; omega
  have hlen := lo.len ok
  have fin : ∀ (x5 x6 x7 x9 x10 : Option V) (O : Addr) (xs : List V) (H9 : Hp), Fz [p, g] H H9 → Bag H9 p g → H9 O = some (.lst xs) → Off p g O → xs ≠ [] → xs.length ≤ 100 → (∀ x ∈ xs, OddV K H9 [p, g] t row x) →
      tRet (tOp (rEqD K) (tKn (sp_ltold K) (tCons (tVar 1) (tCons (tKn (sp_lpick K) (tCons (tVar 0) (tCons (tVar 8) tNil))) (tCons (tOp (rI0 fun i j => .int (i + j)) (tC (.int 2)) (tKn (sp_ldraw K) (tCons (tVar 0) (tCons (tC (.int 2)) tNil)))) tNil)))) (tLst (tCons (tC (.str "unfit")) tNil)))
        { nx := fun _ H' => Q .non H', rt := Q } [some (.ref p), some v, some (.ref R), some (.ref A), some (.int (lots t row).length), x5, x6, x7, some (.ref O), x9, x10] H9 := by
    intro x5 x6 x7 x9 x10 O xs H9 f9 b9 eO offO ne hl ho
    refine ⟨_, rfl, _, rfl, _, rfl, p, g, O, xs, rfl, b9, SqL.of eO, offO, ne, by omega, fun i x H2 hx f2 b2 => ?_⟩
    refine ⟨_, rfl, p, g, 2, rfl, b2, by decide, by decide, fun d H3 h0 h1 f3 b3 => ⟨_, _, rfl, rfl, ?_⟩⟩
    obtain ⟨n, an, _, hn⟩ := (ho x (List.mem_of_getElem? hx)).fz (f2.trans f3) fun a _ m => m
    have f93 := f9.trans (f2.trans f3)
    have done : ∀ (r : Addr) (H' : Hp), Same H3 H' → H3 r = none → IsUnfit H' r → [V.str "unfit"].length ≤ sizeLine ∧ ∀ z, H' z = none → rEqD K (.ref r) (.ref z) (upd H' z (.lst [.str "unfit"])) Q := fun r H' s nr er =>
      newL (Q := fun y H => rEqD K (.ref r) y H Q) (by show 1 ≤ sizeLine; decide) fun z H2 s2 nz ez => unfit_eq (s2 _ _ er) ez (q _ (f93.trans (Fz.of (s.trans s2))) (b3.same (s.trans s2)))
    refine ⟨t, row, v, x, n, 2 + d, rfl, TrAt.fz f93 t v ht, ok, an, by omega, by omega, fun z => absurd z (by omega), fun _ => ?_⟩
    rcases hn with hn | ⟨hn, a, ys, ea, k1, k2, k3, k4⟩
    · exact .inl ⟨hn, done⟩
    · refine .inr ⟨hn, a, ys, ea, k1, fun y hy => ?_, k3, fun l' k e lo' _ => absurd ⟨l', e, lo'⟩ k4, fun _ => done⟩
      obtain ⟨m, am, _⟩ := k2 y hy
      exact ⟨m, am⟩
  -- the number that is none
  refine ⟨_, rfl, _, rfl, _, rfl, _, rfl, by omega, fun r1 xs1 H1 s1 nr1 er1 lx1 hx1 => ?_⟩
  refine ⟨p, g, r1, xs1, rfl, hb.same s1, SqL.of er1, hb.off nr1, (fun z => by rw [z] at lx1; cases lx1), by omega, fun i x H2 hx f2 b2 => ?_⟩
  refine ⟨_, rfl, p, g, 2, rfl, b2, by decide, by decide, fun d H3 h0 h1 f3 b3 => ?_⟩
  obtain ⟨pl, n, an, off⟩ := hx1 x (List.mem_of_getElem? hx)
  have f13 : Fz [p, g] H H3 := (Fz.of s1).trans (f2.trans f3)
  refine ⟨t, row, v, x, n, d, rfl, TrAt.fz f13 t v ht, ok, an.fzX (f2.trans f3) (.inr fun a e => hb.off (off a e)), h0, by omega, fun _ => ⟨fun k l' e hk => ?_, fun _ r4 H4 s4 nr4 er4 => ?_⟩, fun z => absurd z (by omega)⟩
  · exfalso
    subst e
    have hk' := (List.getElem?_eq_some_iff.mp hk).1
    have : (decide (0 ≤ (k : Int)) && decide ((k : Int) < ((lots t row).length : Int))) = false := pl
    rw [decide_eq_true (by omega), decide_eq_true (by omega)] at this
    cases this
  refine ⟨(by show 1 ≤ sizeLine; decide), fun z nz => ?_⟩
  generalize hh : upd _ z _ = H5
  obtain ⟨s5, ez⟩ := made hh nz
  clear hh
  refine unfit_ne (s5 _ _ er4) ez ?_
  refine ⟨_, rfl, iteF ?_⟩
  have s35 := s4.trans s5
  have f5 := f13.trans (Fz.of s35)
  have b5 := b3.same s35
  have hR5 := f5 _ _ hR (.inl offR)
  -- a button of no tree
  have lo100 := others_len ok.asc ok.btn
  refine ⟨100, rfl, by decide, by decide, fun D nD => lcfil (walk_rg (n := 100)) (fun _ _ => trivial) (by rw [List.length_map, rg_length]; decide) (fun _ => rfl)
    (fun v => match v with | .int n => !decide (n ∈ row) | _ => false) (fun v => v) (fun v H6 Q6 hv s6 q6 => ?_) (fun v H6 Q6 _ _ _ q6 => ⟨v, rfl, q6⟩) nD fun H6 s6 eD => ?_⟩
  · obtain ⟨n, _, rfl⟩ := List.mem_map.mp hv
    refine ⟨_, rfl, _, rfl, R, _, rfl, .inl (SqL.of (s6 _ _ hR5)), rfl, flat_ints row, _, rfl, ?_⟩
    rw [if_pos rfl, inV_ints]
    exact q6 H6 (Same.refl H6)
  rw [List.map_id', filter_ints] at eD
  have f6 := f5.trans (Fz.of s6)
  have b6 := b5.same s6
  have hR6 := s6 _ _ hR5
  refine ⟨_, rfl, _, rfl, R, _, rfl, .inl (SqL.of hR6), _, _, rfl, rfl, p, g, _, rfl, b6, ?_, ?_, fun d2 H7 h20 h21 f7 b7 => ?_⟩
  · rw [List.length_map]
    omega
  · rw [List.length_map]
    omega
  rw [List.length_map] at h21
  have eD7 := f7 _ _ eD (.inl (b5.off nD))
  obtain ⟨bv, hbv, hat⟩ := at_toNat (xs := ((rg 100).filter fun n => !decide (n ∈ row)).map V.int) h20 (by rw [List.length_map]; omega)
  obtain ⟨b, hb', rfl⟩ := ints_get hbv
  have hbm := List.mem_filter.mp (List.mem_of_getElem? hb')
  have hbr : b ∉ row := by simpa using hbm.2
  refine ⟨D, _, d2, _, rfl, rfl, SqL.of eD7, hat, ?_⟩
  have f07 := f6.trans f7
  have hR7 := f7 _ _ hR6 (.inl offR)
  have hA7 : SqT K H7 A (l.map V.int) := f07.tup hA
  -- the first; lots that fail
  have lne : l ≠ [] := fun z => by
    have := lo.go
    rw [z, goes_none t [] ok.wf fun x _ q => nomatch q] at this
    cases this
  obtain ⟨first, tl, rfl⟩ := List.exists_cons_of_ne_nil lne
  have hfirst := ok.btn first (lo.sub first List.mem_cons_self)
  obtain ⟨m1, em1, _⟩ := cut_ints row none (some 1)
  obtain ⟨m2, em2, _⟩ := cut_ints row (some 1) none
  obtain ⟨m3, em3, _⟩ := cut_ints row none (some (-1))
  refine ⟨_, rfl, A, _, 0, .int first, rfl, rfl, hA7, atI_nat (j := 0) rfl, ?_⟩
  refine ⟨_, rfl, 1, rfl, R, _, rfl, SqL.of hR7, fun a1 n1 => ?_⟩
  generalize hh : upd _ a1 _ = K1
  obtain ⟨t1, e1⟩ := made hh n1
  clear hh
  rw [em1] at e1
  refine ⟨_, rfl, 1, rfl, R, _, rfl, SqL.of (t1 _ _ hR7), fun a2 n2 => ?_⟩
  generalize hh : upd _ a2 _ = K2
  obtain ⟨t2, e2⟩ := made hh n2
  clear hh
  rw [em2] at e2
  refine ⟨_, rfl, 1, rfl, _, rfl, R, _, rfl, SqL.of (t2 _ _ (t1 _ _ hR7)), fun a3 n3 => ?_⟩
  generalize hh : upd _ a3 _ = K3
  obtain ⟨t3, e3⟩ := made hh n3
  clear hh
  have e3' : K3 a3 = some (.lst (m3.map V.int)) := by rw [e3, ← em3]
  refine ⟨(by show 0 ≤ sizeLine; decide), fun a4 n4 => ?_⟩
  generalize hh : upd _ a4 _ = K4
  obtain ⟨t4, e4⟩ := made hh n4
  clear hh
  refine ⟨(by show 4 ≤ sizeLine; decide), fun L nL => ?_⟩
  generalize hh : upd _ L _ = K5
  obtain ⟨t5, eL⟩ := made hh nL
  clear hh
  have t35 := t4.trans t5
  have t25 := t3.trans t35
  have t15 := t2.trans t25
  have t05 := t1.trans t15
  have seqs : ∀ z ∈ [(a1, m1), (a2, m2), (a3, m3), (a4, [])], SqL K K5 z.1 (z.2.map V.int) ∨ SqT K K5 z.1 (z.2.map V.int) := by
    intro z hz
    simp only [List.mem_cons, List.not_mem_nil, or_false] at hz
    rcases hz with rfl | rfl | rfl | rfl
    · exact .inl (SqL.of (t15 _ _ e1))
    · exact .inl (SqL.of (t25 _ _ e2))
    · exact .inl (SqL.of (t35 _ _ e3'))
    · exact .inr (SqT.inj (t5 _ _ e4))
  have f8 := f07.trans (Fz.of t05)
  have b8 := b7.same t05
  refine ⟨L, rfl, ⟨_, SqL.of eL⟩, fun F nF => lcfilA (walk_list_of (K := K) (a := L) (zs := [(a1, m1), (a2, m2), (a3, m3), (a4, [])]) (f := fun z => V.ref z.1)) (fun H2 s2 => s2.seq (SqL.of eL)) (by show 4 ≤ 1000000; decide) (fun _ => rfl)
    (fun z => !t.goes z.2) (fun z => V.ref z.1) (fun z H2 Q2 hz s2 q2 => ?_) (fun z H2 Q2 _ _ _ q2 => ⟨_, rfl, q2⟩) nF fun K6 t6 eF => ?_⟩
  · exact ⟨_, rfl, _, rfl, t, v, z.1, z.2, rfl, TrAt.fz (f8.trans (Fz.of s2)) t v ht, seq_same s2 (seqs z hz), ok.deep, ok.wf, few, fun H3 s3 => ⟨_, rfl, q2 H3 s3⟩⟩
  refine ⟨_, _, rfl, ?_⟩
  have f9 := f8.trans (Fz.of t6)
  have b9 := b8.same t6
  have hA6 : SqT K K6 A ((first :: tl).map V.int) := f9.tup hA
  -- each as a tuple
  refine ⟨_, rfl, F, rfl, ⟨_, SqL.of eF⟩, fun G nG => lc_it (walk_list_of (K := K) (a := F) (zs := [(a1, m1), (a2, m2), (a3, m3), (a4, [])].filter fun z => !t.goes z.2) (f := fun z => V.ref z.1))
    (fun i H2 => Same K6 H2 ∧ ∃ xs, H2 G = some (.lst xs) ∧ xs.length ≤ i ∧ ∀ x ∈ xs, ∃ (a : Addr) (m : List Int), x = .ref a ∧ SqT K H2 a (m.map V.int) ∧ m.length ≤ 60 ∧ t.goes m = false) ⟨new_same _ nG, [], upd_same, Nat.le_refl _, fun x hx => nomatch hx⟩ (fun i H2 _ hP => hP.1.seq (SqL.of eF)) ?_ ?_⟩
  · rintro i vv _ H2 hi ⟨s2, xs, e2, lxs, hxs⟩ ⟨rfl, hv⟩
    rw [List.getElem?_map] at hv
    cases hz : ([(a1, m1), (a2, m2), (a3, m3), (a4, [])].filter fun z => !t.goes z.2)[i]? with
    | none =>
      rw [hz] at hv
      cases hv
    | some z =>
      rw [hz] at hv
      cases hv
      obtain ⟨hz1, hz2⟩ := List.mem_filter.mp (List.mem_of_getElem? hz)
      have hl4 : i < 4 := Nat.lt_of_lt_of_le hi (List.length_filter_le _ _)
      have gz : t.goes z.2 = false := by simpa using hz2
      have lz : z.2.length ≤ 60 := by
        simp only [List.mem_cons, List.not_mem_nil, or_false] at hz1
        rcases hz1 with rfl | rfl | rfl | rfl <;> simp <;> omega
      have sq := seq_same (t6.trans s2) (seqs z hz1)
      have put : ∀ (a : Addr) (H3 : Hp), Same H2 H3 → SqT K H3 a (z.2.map V.int) → ∃ acc, H3 G = some (.lst acc) ∧ acc.length < sizeLine ∧ (Same K6 (upd H3 G (.lst (acc ++ [.ref a]))) ∧ ∃ xs, upd H3 G (.lst (acc ++ [.ref a])) G = some (.lst xs) ∧ xs.length ≤ i + 1 ∧ ∀ x ∈ xs, ∃ (a' : Addr) (m : List Int), x = .ref a' ∧ SqT K (upd H3 G (.lst (acc ++ [.ref a]))) a' (m.map V.int) ∧ m.length ≤ 60 ∧ t.goes m = false) := by
        intro a H3 s3 ha
        refine ⟨xs, s3 _ _ e2, small1000 (by omega), same_grow nG (s2.trans s3), _, upd_same, by rw [List.length_append, List.length_singleton]; omega, ?_⟩
        have mv : ∀ {u : Addr} {zs : List V}, SqT K H3 u zs → SqT K (upd H3 G (.lst (xs ++ [.ref a]))) u zs := fun {u zs} h => (Fz.chg (ex := [G]) (s3 _ _ e2) rfl (List.mem_singleton.mpr rfl)).tup h
        intro x hx
        rcases List.mem_append.mp hx with hx | hx
        · obtain ⟨a', m, r1, r2, r3, r4⟩ := hxs x hx
          exact ⟨a', m, r1, mv ((Fz.of (ex := []) s3).tup r2), r3, r4⟩
        · rw [List.mem_singleton.mp hx]
          exact ⟨a, z.2, rfl, mv ha, lz, gz⟩
      rcases sq with sq | sq
      · exact ⟨rfl, _, rfl, z.1, _, rfl, .inl ⟨sq, fun a na => put a _ (new_same _ na) (SqT.inj upd_same)⟩⟩
      · exact ⟨rfl, _, rfl, z.1, _, rfl, .inr ⟨sq, put z.1 H2 (Same.refl H2) sq⟩⟩
  rintro K7 ⟨t7, xsG, eG, lG, hG⟩
  have lG4 : xsG.length ≤ 4 := Nat.le_trans lG (List.length_filter_le _ _)
  have f10 := f9.trans (Fz.of t7)
  have b10 := b9.same t7
  have hA7 : SqT K K7 A ((first :: tl).map V.int) := (Fz.of (ex := []) t7).tup hA6
  have nLot : ∀ m : List Int, ¬ (∀ x ∈ m, x ∈ row) → ¬ LotOk t row m := fun m h lo => h lo.sub
  have odG : ∀ x ∈ xsG, OddV K K7 [p, g] t row x := fun x hx => by
    obtain ⟨a, m, rfl, h1, h2, h3⟩ := hG x hx
    exact odd_ints h1 (by omega) fun lo => by
      have := lo.go
      rw [h3] at this
      cases this
  -- five more
  refine ⟨_, rfl, _, rfl, cat1 hA7 (by omega) fun P1 K8 t8 hP1 => ⟨P1, _, rfl, hP1, fun ns S perm asc nS => ?_⟩⟩
  have t9 : Same K8 (upd K8 S (.lst (ns.map V.int))) := new_same _ nS
  refine ⟨S, _, rfl, .inl ⟨SqL.of upd_same, fun T1 nT1 => ?_⟩⟩
  generalize hh : upd _ T1 _ = K10
  obtain ⟨t10, eT1⟩ := made hh nT1
  clear hh
  have t710 := t8.trans (t9.trans t10)
  refine ⟨_, rfl, A, _, rfl, .inr ((Fz.of (ex := []) t710).tup hA7), fun T2 nT2 => ?_⟩
  generalize hh : upd _ T2 _ = K11
  obtain ⟨t11, eT2⟩ := made hh nT2
  clear hh
  have t711 := t710.trans t11
  obtain ⟨l', last, elast⟩ := last_of (l := first :: tl) (by simp)
  have hA11 := (Fz.of (ex := []) t711).tup hA7
  have hA11' : SqT K K11 A ((l' ++ [last]).map V.int) := by rw [← elast]; exact hA11
  refine ⟨_, rfl, _, rfl, 1, rfl, _, rfl, ?_⟩
  dsimp only [tNoPart]
  refine sl_last hA11' fun P2 K12 t12 hP2 => ?_
  refine catA' ((Fz.of (ex := []) t12).tup hA11) hP2 (by simp at hlen ⊢; omega) fun T3 K13 t13 hT3 => ?_
  have t713 := t711.trans (t12.trans t13)
  refine ⟨_, rfl, ⟨(by show 1 ≤ sizeLine; decide), fun T4 nT4 => ?_⟩⟩
  generalize hh : upd _ T4 _ = K14
  obtain ⟨t14, eT4⟩ := made hh nT4
  clear hh
  refine ⟨(by show 5 ≤ sizeLine; decide), fun N1 nN1 => ?_⟩
  generalize hh : upd _ N1 _ = K15
  obtain ⟨t15', eN1⟩ := made hh nN1
  clear hh
  have t1315 := t14.trans t15'
  have t715 := t713.trans t1315
  refine ⟨G, N1, _, _, rfl, rfl, t715 _ _ eG, eN1, (by simp only [List.length_cons, List.length_nil]; exact Nat.le_of_lt (small1000 (by omega))), fun O1 nO1 => ?_⟩
  generalize hh : upd _ O1 _ = K16
  obtain ⟨t16, eO1⟩ := made hh nO1
  clear hh
  have t716 := t715.trans t16
  have od1 : ∀ x ∈ xsG ++ [.ref T1, .ref T2, .ref T3, .ref T4, .int 0], OddV K K16 [p, g] t row x := by
    intro x hx
    rcases List.mem_append.mp hx with hx | hx
    · exact (odG x hx).same t716
    have hA16 := (Fz.of (ex := []) t716).tup hA7
    simp only [List.mem_cons, List.not_mem_nil, or_false] at hx
    rcases hx with rfl | rfl | rfl | rfl | rfl
    · have eT1' : K16 T1 = some (.tup (ns.map V.int)) := t16 _ _ (t1315 _ _ (t13 _ _ (t12 _ _ (t11 _ _ eT1))))
      have ln := perm.length_eq
      rw [List.length_append, List.length_singleton] at ln
      exact odd_ints (SqT.inj eT1') (by omega) (nLot ns fun h => hbr (h b (perm.mem_iff.mpr (by simp))))
    · refine odd_lst (t16 _ _ (t1315 _ _ (t13 _ _ (t12 _ _ eT2)))) ?_
      exact (b10.same t710).off nT2
    · refine odd_ints ((Fz.of (ex := []) (t1315.trans t16)).tup hT3) (by simp at hlen ⊢; omega) fun lo => ?_
      have h2 := List.pairwise_append.mp lo.asc
      have := h2.2.2 last (by rw [elast]; simp) last (by simp)
      omega
    · refine odd_tup (SqT.inj (t16 _ _ (t15' _ _ eT4))) (fun y hy => ?_) (by simp) fun ⟨m, e, _⟩ => ?_
      · rw [List.mem_singleton.mp hy]
        exact ⟨_, any_tup hA16, by decide⟩
      · cases m with
        | nil => cases e
        | cons a m => cases e
    · exact odd_plain (any_int 0) (by decide) (by decide)
  have hA16 := (Fz.of (ex := []) t716).tup hA7
  have l1 : (xsG ++ [V.ref T1, .ref T2, .ref T3, .ref T4, .int 0]).length ≤ 9 := by
    rw [List.length_append]
    simp only [List.length_cons, List.length_nil]
    omega
  revert eO1 od1 l1
  generalize xsG ++ [V.ref T1, .ref T2, .ref T3, .ref T4, .int 0] = xs1
  intro eO1 od1 l1
  have f16 := f10.trans (Fz.of t716)
  have b16 := b10.same t716
  -- six more
  refine ⟨_, rfl, _, rfl, first, rfl, small_text hfirst, ?_⟩
  refine ⟨_, rfl, cat1 hA16 (by omega) fun U1 J1 u1 hU1 => ?_⟩
  refine ⟨_, rfl, first, rfl, small_text hfirst, ⟨(by show 1 ≤ sizeLine; decide), fun W1 nW1 => ?_⟩⟩
  generalize hh : upd _ W1 _ = J2
  obtain ⟨u2, eW1⟩ := made hh nW1
  clear hh
  have u02 := u1.trans u2
  refine ⟨_, rfl, 1, rfl, ?_⟩
  dsimp only [tNoPart]
  refine sl_from1 (by decide) ((Fz.of (ex := []) u02).tup hA16) fun P3 J3 u3 hP3 => ?_
  refine catA (SqT.inj (u3 _ _ eW1)) hP3 (by simp at hlen ⊢; omega) fun U2 J4 u4 hU2 => ?_
  have u04 := u02.trans (u3.trans u4)
  refine ⟨_, rfl, ⟨(by show 1 ≤ sizeLine; decide), fun W2 nW2 => ?_⟩⟩
  generalize hh : upd _ W2 _ = J5
  obtain ⟨u5, eW2⟩ := made hh nW2
  clear hh
  refine ⟨(by show 1 ≤ sizeLine; decide), fun W3 nW3 => ?_⟩
  generalize hh : upd _ W3 _ = J6
  obtain ⟨u6, eW3⟩ := made hh nW3
  clear hh
  have u06 := u04.trans (u5.trans u6)
  refine ⟨_, rfl, 1, rfl, ?_⟩
  dsimp only [tNoPart]
  refine sl_from1 (by decide) ((Fz.of (ex := []) u06).tup hA16) fun P4 J7 u7 hP4 => ?_
  refine catA (SqT.inj (u7 _ _ eW3)) hP4 (by simp at hlen ⊢; omega) fun U3 J8 u8 hU3 => ?_
  refine ⟨(by show 6 ≤ sizeLine; decide), fun N2 nN2 => ?_⟩
  generalize hh : upd _ N2 _ = J9
  obtain ⟨u9, eN2⟩ := made hh nN2
  clear hh
  have u48 := u5.trans (u6.trans (u7.trans u8))
  have u09 := u06.trans (u7.trans (u8.trans u9))
  refine ⟨O1, N2, _, _, rfl, rfl, u09 _ _ eO1, eN2, (by simp only [List.length_cons, List.length_nil]; exact Nat.le_of_lt (small1000 (by omega))), fun O2 nO2 => ?_⟩
  generalize hh : upd _ O2 _ = J10
  obtain ⟨u10, eO2⟩ := made hh nO2
  clear hh
  have od2 : ∀ x ∈ xs1 ++ [V.non, .bl true, .str (toString first), .ref U1, .ref U2, .ref U3], OddV K J9 [p, g] t row x := by
    intro x hx
    rcases List.mem_append.mp hx with hx | hx
    · exact (od1 x hx).same u09
    simp only [List.mem_cons, List.not_mem_nil, or_false] at hx
    rcases hx with rfl | rfl | rfl | rfl | rfl | rfl
    · exact odd_plain any_non (by decide) (by decide)
    · exact odd_plain (any_bl _) (by decide) (by decide)
    · exact odd_plain (any_str _) (by decide) (by decide)
    · refine odd_ints ((Fz.of (ex := []) (u2.trans (u3.trans (u4.trans (u48.trans u9))))).tup hU1) (by simp at hlen ⊢; omega) (nLot _ fun h => ?_)
      have := ok.btn 100 (h 100 (by simp))
      omega
    · refine odd_tup ((Fz.of (ex := []) (u48.trans u9)).tup hU2) (fun y hy => ?_) (by simp at hlen ⊢; omega) fun ⟨m, e, _⟩ => ?_
      · rcases List.mem_append.mp hy with hy | hy
        · rw [List.mem_singleton.mp hy]
          exact ⟨_, any_str _, by decide⟩
        · exact int_items _ y hy
      · cases m with
        | nil => cases e
        | cons a m => cases e
    · refine odd_tup ((Fz.of (ex := []) u9).tup hU3) (fun y hy => ?_) (by simp at hlen ⊢; omega) fun ⟨m, e, _⟩ => ?_
      · rcases List.mem_append.mp hy with hy | hy
        · rw [List.mem_singleton.mp hy]
          exact ⟨_, any_tup (K := K) (SqT.inj ((u6.trans (u7.trans (u8.trans u9))) _ _ eW2)), by decide⟩
        · exact int_items _ y hy
      · cases m with
        | nil => cases e
        | cons a m => cases e
  have l2 : (xs1 ++ [V.non, .bl true, .str (toString first), .ref U1, .ref U2, .ref U3]).length ≤ 15 := by
    rw [List.length_append]
    simp only [List.length_cons, List.length_nil]
    omega
  revert eO2 od2 l2
  generalize xs1 ++ [V.non, .bl true, .str (toString first), .ref U1, .ref U2, .ref U3] = xs2
  intro eO2 od2 l2
  have f19 := f16.trans (Fz.of u09)
  have b19 := b16.same u09
  have hA19 := (Fz.of (ex := []) u09).tup hA16
  -- and a dict
  refine ⟨_, rfl, .inl ⟨rfl, _, SqL.of eO2⟩, fun dd nd => ⟨_, rfl, _, rfl, upd_same, [(.inl first, .int first)], rfl, (by show 1 ≤ 15; decide), ?_⟩⟩
  rw [upd_upd]
  have u11 : Same J10 (upd J10 dd (.dK (mergeK [] [(.inl first, .int first)]))) := new_same _ nd
  have edd := upd_same (H := J10) (a := dd) (o := .dK (mergeK [] [(.inl first, .int first)]))
  have ndJ9 : J9 dd = none := u10.free nd
  have hO2d : O2 ≠ dd := ne_of_none eO2 nd
  revert u11 edd
  generalize upd J10 dd (.dK (mergeK [] [(.inl first, .int first)])) = J11
  intro u11 edd
  refine ⟨O2, _, _, rfl, rfl, u11 _ _ eO2, small1000 (by omega), ?_⟩
  have s12 : Same J9 (upd J11 O2 (.lst (xs2 ++ [.ref dd]))) := same_grow nO2 (u10.trans u11)
  have eO3 := upd_same (H := J11) (a := O2) (o := .lst (xs2 ++ [.ref dd]))
  have edd3 : (upd J11 O2 (.lst (xs2 ++ [.ref dd]))) dd = some (.dK (mergeK [] [(.inl first, .int first)])) := by rw [upd_ne (Ne.symm hO2d)]; exact edd
  revert s12 eO3 edd3
  generalize upd J11 O2 (.lst (xs2 ++ [.ref dd])) = J12
  intro s12 eO3 edd3
  have od3 : ∀ x ∈ xs2 ++ [V.ref dd], OddV K J12 [p, g] t row x := by
    intro x hx
    rcases List.mem_append.mp hx with hx | hx
    · exact (od2 x hx).same s12
    · rw [List.mem_singleton.mp hx]
      exact odd_dict edd3 (b19.off ndJ9)
  have l3 : (xs2 ++ [V.ref dd]).length ≤ 16 := by
    rw [List.length_append, List.length_singleton]
    omega
  have ne3 : xs2 ++ [V.ref dd] ≠ [] := by simp
  revert eO3 od3 l3 ne3
  generalize xs2 ++ [V.ref dd] = xs3
  intro eO3 od3 l3 ne3
  have f12 := f19.trans (Fz.of s12)
  have b12 := b19.same s12
  have offO2 := b19.off nO2
  refine ⟨_, rfl, first, 2, rfl, rfl, _, rfl, ?_⟩
  refine ite2 (fun c => ?_) (fun c => fin _ _ _ _ _ O2 xs3 J12 f12 b12 eO3 offO2 ne3 (by omega) od3)
  have hA12 := (Fz.of (ex := []) s12).tup hA19
  refine ⟨_, rfl, _, rfl, rfl, ⟨(by show 1 ≤ sizeLine; decide), fun W4 nW4 => ?_⟩⟩
  generalize hh : upd _ W4 _ = J13
  obtain ⟨u13, eW4⟩ := made hh nW4
  clear hh
  refine ⟨_, rfl, 1, rfl, ?_⟩
  dsimp only [tNoPart]
  refine sl_from1 (by decide) ((Fz.of (ex := []) u13).tup hA12) fun P5 J14 u14 hP5 => ?_
  refine catA (SqT.inj (u14 _ _ eW4)) hP5 (by simp at hlen ⊢; omega) fun U4 J15 u15 hU4 => ⟨(by show 1 ≤ sizeLine; decide), fun N3 nN3 => ?_⟩
  generalize hh : upd _ N3 _ = J16
  obtain ⟨u16, eN3⟩ := made hh nN3
  clear hh
  have u1216 := u13.trans (u14.trans (u15.trans u16))
  refine ⟨O2, N3, _, _, rfl, rfl, u1216 _ _ eO3, eN3, (by simp only [List.length_cons, List.length_nil]; exact Nat.le_of_lt (small1000 (by omega))), fun O4 nO4 => ?_⟩
  generalize hh : upd _ O4 _ = J17
  obtain ⟨u17, eO4⟩ := made hh nO4
  clear hh
  have u1217 := u1216.trans u17
  refine fin _ _ _ _ _ O4 _ J17 (f12.trans (Fz.of u1217)) (b12.same u1217) eO4 ((b12.same u1216).off nO4) (by simp) (by rw [List.length_append]; simp only [List.length_cons, List.length_nil]; omega) fun x hx => ?_
  rcases List.mem_append.mp hx with hx | hx
  · exact (od3 x hx).same u1217
  · rw [List.mem_singleton.mp hx]
    refine odd_tup ((Fz.of (ex := []) (u16.trans u17)).tup hU4) (fun y hy => ?_) (by simp at hlen ⊢; omega) fun ⟨m, e, _⟩ => ?_
    · rcases List.mem_append.mp hy with hy | hy
      · rw [List.mem_singleton.mp hy]
        exact ⟨_, any_bl _, by decide⟩
      · exact int_items _ y hy
    · cases m with
      | nil => cases e
      | cons a m => cases e
end K19

namespace K19
open PySem PySem.Spec PyProof.Rows L2

/-! ### _law_are_counted -/
theorem wide_text {i : Int} (h : 0 ≤ i ∧ i < 2 ^ 64) : i.natAbs.log2 < 1920 := by
  have : i.natAbs < 2 ^ 1920 := Nat.lt_of_lt_of_le (by omega : i.natAbs < 2 ^ 64) (Nat.pow_le_pow_right (by decide) (by decide))
  by_cases e : i.natAbs = 0
  · rw [e]
    decide
  · exact (Nat.log2_lt e).mpr this
theorem due_is {t : Tr} {row : List Int} (ok : TreeOk t row) (must never : List Int) : ((((lots t row).filter fun s => decide (∀ x ∈ must, x ∈ s)).filter fun s => decide (∀ x ∈ never, x ∉ s)).length : Int) = cntG t row must never := by
  have hg := (lots_perm t row ok.wf).symm
  unfold cntG
  by_cases c : ∀ x ∈ must, x ∈ row
  · rw [if_pos c]
    exact due_count t row _ must never ok.wf ok.perm ok.nodup hg c
  · rw [if_neg c]
    obtain ⟨y, hy⟩ := Classical.not_forall.mp c
    obtain ⟨h1, h2⟩ := Classical.not_imp.mp hy
    rw [due_none t row _ must never hg h1 h2]
    rfl
theorem two_filters (bs : List (Addr × List Int)) (P P2 : List Int → Bool) : ((bs.filter fun b => P b.2).filter fun b => P2 b.2).length = (((bs.map (·.2)).filter P).filter P2).length := by
  rw [List.filter_map, List.filter_map, List.length_map]
  rfl
theorem lack_nil (M s : List Int) : decide (((M.filter fun n => !decide (n ∈ s)).map fun _ => (1 : Int)) = []) = decide (∀ x ∈ M, x ∈ s) := by
  rw [decide_eq_decide, List.map_eq_nil_iff, List.filter_eq_nil_iff]
  constructor
  · intro h x hx
    have := h x hx
    simpa using this
  · intro h x hx
    simp [h x hx]
theorem torn_nil (M s : List Int) : decide (((M.filter fun n => decide (n ∈ s)).map fun _ => (1 : Int)) = []) = decide (∀ x ∈ M, x ∉ s) := by
  rw [decide_eq_decide, List.map_eq_nil_iff, List.filter_eq_nil_iff]
  constructor
  · intro h x hx
    have := h x hx
    simpa using this
  · intro h x hx
    simp [h x hx]
def sp_lcounted (K : PySem.W.Frag) : Sp := fun vs H Q _ => ∃ (p g : Addr) (t : Tr) (row : List Int) (v : V) (R : Addr) (x : V), vs = [.ref p, v, .ref R, x] ∧ Bag H p g ∧ TrAt K H t v ∧ TreeOk t row ∧ H R = some (.lst (row.map V.int)) ∧ Off p g R ∧ row.length ≤ 24 ∧ row ≠ [] ∧
  (x = .non ∨ ∃ (G : Addr) (bs : List (Addr × List Int)), x = .ref G ∧ SqL K H G (refs bs) ∧ Off p g G ∧ Rows K H bs ∧ bs.map (·.2) = lots t row ∧ bs.length ≤ 10000) ∧ ∀ H', Fz [p, g] H H' → Bag H' p g → Q (.bl true) H'
theorem len_lcounted {K : PySem.W.Frag} : ∀ vs H Q E, sp_lcounted K vs H Q E → vs.length = ["_law_bag_here", "_law_tree_here", "_law_row", "_law_going"].length := fun vs H Q E h => by
  obtain ⟨p, g, t, row, v, R, x, rfl, _⟩ := h
  rfl
set_option maxHeartbeats 16000000 in
theorem law_lcounted {K : PySem.W.Frag} {w : World} (vs : List V) (H : Hp) (Q : VK) (E : XK) (h : sp_lcounted K vs H Q E) : t_lcounted K w (sp_lpick K) (sp_llot K) (sp_lgmany K) (sp_gcount K) { nx := fun _ H' => Q .non H', rt := Q } (start N_lcounted vs) H := by
  obtain ⟨p, g, t, row, v, R, x, rfl, hb, ht, ok, hR, offR, hrow, hne, hx, q⟩ := h
  have few : t.leaves.length ≤ 1000 := by have := ok.len; omega
  -- the wide row
  refine ⟨_, rfl, 100, rfl, by decide, by decide, fun D nD => lcfil (walk_rg (n := 100)) (fun _ _ => trivial) (by rw [List.length_map, rg_length]; decide) (fun _ => rfl)
    (fun v => match v with | .int n => !decide (n ∈ row) | _ => false) (fun v => v) (fun v H6 Q6 hv s6 q6 => ?_) (fun v H6 Q6 _ _ _ q6 => ⟨v, rfl, q6⟩) nD fun H1 s1 eD => ?_⟩
  · obtain ⟨n, _, rfl⟩ := List.mem_map.mp hv
    refine ⟨_, rfl, _, rfl, R, _, rfl, .inl (SqL.of (s6 _ _ hR)), rfl, flat_ints row, _, rfl, ?_⟩
    rw [if_pos rfl, inV_ints]
    exact q6 H6 (Same.refl H6)
  rw [List.map_id', filter_ints] at eD
  have lD : ((rg 100).filter fun n => !decide (n ∈ row)).length ≤ 100 := by
    have := List.length_filter_le (fun n => !decide (n ∈ row)) (rg 100)
    rw [rg_length] at this
    exact this
  revert eD lD
  generalize (rg 100).filter (fun n => !decide (n ∈ row)) = others
  intro eD lD
  refine ⟨2, rfl, D, _, rfl, SqL.of eD, fun S nS => ?_⟩
  generalize hh : upd _ S _ = H2
  obtain ⟨s2, eS⟩ := made hh nS
  clear hh
  obtain ⟨m2, em2, lm2⟩ := cut_ints others none (some 2)
  rw [em2] at eS
  have s12 := s1.trans s2
  refine ⟨R, S, _, _, rfl, rfl, s12 _ _ hR, eS, by rw [List.length_map, List.length_map]; exact Nat.le_of_lt (small1000 (by omega)), fun W nW => ?_⟩
  rw [← List.map_append]
  generalize hh : upd _ W _ = H3
  obtain ⟨s3, eW⟩ := made hh nW
  clear hh
  have s13 := s12.trans s3
  have nW0 : H W = none := s12.free nW
  have offW := hb.off nW0
  have lw : (row ++ m2).length ≤ 130 := by
    rw [List.length_append]
    omega
  have wne : (row ++ m2).map V.int ≠ [] := by
    intro z
    rw [List.map_eq_nil_iff, List.append_eq_nil_iff] at z
    exact hne z.1
  revert eW lw wne
  generalize row ++ m2 = wide
  intro eW lw wne
  -- what is asked at the end of each turn
  have rest : ∀ (D : Ends) (i : Nat) (x8 x9 x10 : Option V) (a b : Addr) (M N : List Int) (H4 : Hp), Fz [p, g] H H4 → Bag H4 p g → H4 W = some (.lst (wide.map V.int)) → SqT K H4 a (M.map V.int) → M.length ≤ 100 → SqT K H4 b (N.map V.int) → N.length ≤ 100 →
      (∀ (x8 x9 x10 : Option V) (H5 : Hp), Fz [p, g] H H5 → Bag H5 p g → H5 W = some (.lst (wide.map V.int)) → D.nx [some (.ref p), some v, some (.ref R), some x, some (.ref W), some (.int i), some (.ref a), some (.ref b), x8, x9, x10, none, none] H5) →
      (tSeq (tAsg (tKn (sp_lgmany K) (tCons (tVar 1) (tCons (tVar 6) (tCons (tVar 7) tNil)))) (gName 8))
    (tSeq (tIfS (tTest (tOp (fun x y H Q => y = .non ∧ Q (.bl (!decide (x = .non))) H) (tVar 3) (tC .non))) (tSeq (tAsg (tLc (iList K (tVar 3)) (gName 12) (tTest (tOp (rEqD K) (tLc (iTup K (tVar 6)) (gName 11) (tTest (tOp (rIn K true) (tVar 11) (tVar 12))) (tC (.int 1)) [11]) (tLst tNil))) (tVar 12) [12]) (gName 9))
    (tAsg (tCB (fun xs H Q => ∃ p ys, xs = [.ref p] ∧ (SqL K H p ys ∨ SqT K H p ys) ∧ Q (.int ys.length) H) (tCons (tLc (iList K (tVar 9)) (gName 12) (tTest (tOp (rEqD K) (tLc (iTup K (tVar 7)) (gName 11) (tTest (tOp (rIn K false) (tVar 11) (tVar 12))) (tC (.int 1)) [11]) (tLst tNil))) (tVar 12) [12]) tNil)) (gName 8))) tNext)
    (tSeq (tAsg (tIf (tTest (tOp (rI0 fun i j => .bl (decide (i < j))) (tVar 5) (tC (.int 3)))) (tKn (sp_gcount K) (tCons (tVar 1) (tCons (tVar 6) (tCons (tVar 7) tNil)))) (tCallBack (sp_gcount K) (fun _ => E0) (tCons (tVar 7) (tCons (tVar 6) (tCons (tVar 1) tNil))))) (gName 10))
    (tIfS (tTest (tOp rNe (tCB (fun xs H Q => ∃ i, xs = [.int i] ∧ i.natAbs.log2 < 1920 ∧ Q (.str (toString i)) H) (tCons (tVar 10) tNil)) (tCB (fun xs H Q => ∃ i, xs = [.int i] ∧ i.natAbs.log2 < 1920 ∧ Q (.str (toString i)) H) (tCons (tVar 8) tNil)))) (tRet (tC (.bl false))) tNext))))
      D [some (.ref p), some v, some (.ref R), some x, some (.ref W), some (.int i), some (.ref a), some (.ref b), x8, x9, x10, none, none] H4 := by
    intro D i x8 x9 x10 a b M N H4 f4 b4 eW4 ha lM hbN lN nx
    have cb := cntG_bound t row M N ok
    -- the second half
    have rest2 : ∀ (x9 : Option V) (H5 : Hp), Same H4 H5 → (tSeq (tAsg (tIf (tTest (tOp (rI0 fun i j => .bl (decide (i < j))) (tVar 5) (tC (.int 3)))) (tKn (sp_gcount K) (tCons (tVar 1) (tCons (tVar 6) (tCons (tVar 7) tNil)))) (tCallBack (sp_gcount K) (fun _ => E0) (tCons (tVar 7) (tCons (tVar 6) (tCons (tVar 1) tNil))))) (gName 10))
    (tIfS (tTest (tOp rNe (tCB (fun xs H Q => ∃ i, xs = [.int i] ∧ i.natAbs.log2 < 1920 ∧ Q (.str (toString i)) H) (tCons (tVar 10) tNil)) (tCB (fun xs H Q => ∃ i, xs = [.int i] ∧ i.natAbs.log2 < 1920 ∧ Q (.str (toString i)) H) (tCons (tVar 8) tNil)))) (tRet (tC (.bl false))) tNext))
        D [some (.ref p), some v, some (.ref R), some x, some (.ref W), some (.int i), some (.ref a), some (.ref b), some (.int (cntG t row M N)), x9, x10, none, none] H5 := by
      intro x9 H5 s5
      have f5 := f4.trans (Fz.of s5)
      have fin : ∀ H6, Same H5 H6 → (tIfS (tTest (tOp rNe (tCB (fun xs H Q => ∃ i, xs = [.int i] ∧ i.natAbs.log2 < 1920 ∧ Q (.str (toString i)) H) (tCons (tVar 10) tNil)) (tCB (fun xs H Q => ∃ i, xs = [.int i] ∧ i.natAbs.log2 < 1920 ∧ Q (.str (toString i)) H) (tCons (tVar 8) tNil)))) (tRet (tC (.bl false))) tNext)
          D [some (.ref p), some v, some (.ref R), some x, some (.ref W), some (.int i), some (.ref a), some (.ref b), some (.int (cntG t row M N)), x9, some (.int (cntG t row M N)), none, none] H6 := by
        intro H6 s6
        have s46 := s5.trans s6
        refine ⟨_, rfl, _, rfl, wide_text cb, _, rfl, _, rfl, wide_text cb, rfl, _, rfl, ?_⟩
        refine ite2 (fun c => ?_) (fun _ => nx _ _ _ H6 (f4.trans (Fz.of s46)) (b4.same s46) (s46 _ _ eW4))
        simp at c
      refine ⟨_, rfl, _, _, rfl, rfl, _, rfl, ?_⟩
      refine ite2 (fun _ => ?_) (fun _ => ?_)
      · exact ⟨_, rfl, _, rfl, _, rfl, t, row, v, a, b, M, N, rfl, TrAt.fz f5 t v ht, ok, (Fz.of (ex := []) s5).tup ha, by omega, (Fz.of (ex := []) s5).tup hbN, fun H6 s6 => fin H6 s6⟩
      · exact ⟨_, rfl, _, rfl, _, rfl, t, row, v, a, b, M, N, rfl, TrAt.fz f5 t v ht, ok, (Fz.of (ex := []) s5).tup ha, by omega, (Fz.of (ex := []) s5).tup hbN, fun H6 s6 => fin H6 s6⟩
    refine ⟨_, rfl, _, rfl, _, rfl, t, row, v, a, b, M, N, rfl, TrAt.fz f4 t v ht, ok, ha, by omega, hbN, fun H5 s5 => ?_⟩
    refine ⟨x, rfl, rfl, _, rfl, ?_⟩
    rcases hx with rfl | ⟨G, bs, rfl, hG, offG, rows, ebs, lbs⟩
    · exact iteF (rest2 x9 H5 s5)
    · refine iteT ?_
      have f5 := f4.trans (Fz.of s5)
      have hG5 := f5.lst offG hG
      have rows5 := rows.fz f5
      have ha5 := (Fz.of (ex := []) s5).tup ha
      have hb5 := (Fz.of (ex := []) s5).tup hbN
      refine ⟨_, rfl, G, rfl, ⟨_, hG5⟩, fun D1 nD1 => lcfilA (walk_list_of (K := K) (a := G) (zs := bs) (f := fun b => V.ref b.1)) (fun H2 s2 => s2.seq hG5) (by omega) (fun _ => rfl)
        (fun z => decide (∀ x ∈ M, x ∈ z.2)) (fun z => V.ref z.1) (fun z H6 Q6 hz s6 q6 => ?_) (fun z H6 Q6 _ _ _ q6 => ⟨_, rfl, q6⟩) nD1 fun H6 s6 eL => ?_⟩
      · have ha6 := (Fz.of (ex := []) s6).tup ha5
        refine ⟨_, rfl, a, rfl, ⟨_, ha6⟩, fun D2 nD2 => lcfil (walk_tup (K := K) (a := a) (xs := M.map V.int)) (fun H7 s7 => (Fz.of (ex := []) s7).tup ha6) (by rw [List.length_map]; omega) (fun _ => rfl)
          (fun v => match v with | .int n => !decide (n ∈ z.2) | _ => false) (fun _ => .int 1) (fun v H7 Q7 hv s7 q7 => ?_) (fun v H7 Q7 _ _ _ q7 => q7) nD2 fun H7 s7 eD2 => ?_⟩
        · obtain ⟨n, _, rfl⟩ := List.mem_map.mp hv
          refine ⟨_, rfl, _, rfl, z.1, _, rfl, .inr ((Fz.of (ex := []) (s6.trans s7)).tup (rows5 z hz)), rfl, flat_ints _, _, rfl, ?_⟩
          rw [if_pos rfl, inV_ints]
          exact q7 H7 (Same.refl H7)
        · have eD2' : H7 D2 = some (.lst (((M.filter fun n => !decide (n ∈ z.2)).map fun _ => (1 : Int)).map V.int)) := by
            rw [eD2, filter_ints, List.map_map, List.map_map]
            rfl
          refine ⟨(by show 0 ≤ sizeLine; decide), fun y ny => ?_⟩
          have s8 : Same H7 (upd H7 y (.lst [])) := new_same _ ny
          refine eq_nil (s8 _ _ eD2') upd_same ⟨_, rfl, ?_⟩
          rw [lack_nil]
          exact q6 _ (s7.trans s8)
      have rows6 : Rows K H6 (bs.filter fun z => decide (∀ x ∈ M, x ∈ z.2)) := fun b hb => (rows5.fz (Fz.of (ex := []) s6)) b (List.mem_filter.mp hb).1
      have hb6 := (Fz.of (ex := []) s6).tup hb5
      refine ⟨_, rfl, D1, rfl, ⟨_, SqL.of eL⟩, fun D3 nD3 => lcfilA (walk_list_of (K := K) (a := D1) (zs := bs.filter fun z => decide (∀ x ∈ M, x ∈ z.2)) (f := fun b => V.ref b.1)) (fun H2 s2 => s2.seq (SqL.of eL)) (by have := List.length_filter_le (fun (z : Addr × List Int) => decide (∀ x ∈ M, x ∈ z.2)) bs; omega) (fun _ => rfl)
        (fun z => decide (∀ x ∈ N, x ∉ z.2)) (fun z => V.ref z.1) (fun z H7 Q7 hz s7 q7 => ?_) (fun z H7 Q7 _ _ _ q7 => ⟨_, rfl, q7⟩) nD3 fun H7 s7 eL2 => ?_⟩
      · have hb7 := (Fz.of (ex := []) s7).tup hb6
        refine ⟨_, rfl, b, rfl, ⟨_, hb7⟩, fun D2 nD2 => lcfil (walk_tup (K := K) (a := b) (xs := N.map V.int)) (fun H8 s8 => (Fz.of (ex := []) s8).tup hb7) (by rw [List.length_map]; omega) (fun _ => rfl)
          (fun v => match v with | .int n => decide (n ∈ z.2) | _ => false) (fun _ => .int 1) (fun v H8 Q8 hv s8 q8 => ?_) (fun v H8 Q8 _ _ _ q8 => q8) nD2 fun H8 s8 eD2 => ?_⟩
        · obtain ⟨n, _, rfl⟩ := List.mem_map.mp hv
          refine ⟨_, rfl, _, rfl, z.1, _, rfl, .inr ((Fz.of (ex := []) (s7.trans s8)).tup (rows6 z hz)), rfl, flat_ints _, _, rfl, ?_⟩
          rw [if_neg Bool.false_ne_true, inV_ints]
          exact q8 H8 (Same.refl H8)
        · have eD2' : H8 D2 = some (.lst (((N.filter fun n => decide (n ∈ z.2)).map fun _ => (1 : Int)).map V.int)) := by
            rw [eD2, filter_ints, List.map_map, List.map_map]
            rfl
          refine ⟨(by show 0 ≤ sizeLine; decide), fun y ny => ?_⟩
          have s9 : Same H8 (upd H8 y (.lst [])) := new_same _ ny
          refine eq_nil (s9 _ _ eD2') upd_same ⟨_, rfl, ?_⟩
          rw [torn_nil]
          exact q7 _ (s8.trans s9)
      · refine ⟨D3, _, rfl, .inl (SqL.of eL2), ?_⟩
        have e := two_filters bs (fun s => decide (∀ x ∈ M, x ∈ s)) (fun s => decide (∀ x ∈ N, x ∉ s))
        rw [ebs] at e
        have e2 := due_is ok M N
        rw [← e] at e2
        rw [List.length_map, e2]
        exact rest2 (some (.ref D1)) H7 (s5.trans (s6.trans s7))
  -- the loop
  refine ⟨4, rfl, by decide, by decide, for_range
    (fun i σ H4 => ∃ (x5 x6 x7 x8 x9 x10 : Option V), σ = [some (.ref p), some v, some (.ref R), some x, some (.ref W), x5, x6, x7, x8, x9, x10, none, none] ∧ Fz [p, g] H H4 ∧ Bag H4 p g ∧ H4 W = some (.lst (wide.map V.int)))
    ⟨none, none, none, none, none, none, rfl, Fz.of s13, hb.same s13, eW⟩ ?_ ?_⟩
  · rintro i σ H4 hi ⟨x5, x6, x7, x8, x9, x10, rfl, f4, b4, eW4⟩
    rw [show (0 : Int) + (i : Int) = (i : Int) from Int.zero_add _]
    have wl : (wide.map V.int).length < 1073741824 := by
      rw [List.length_map]
      omega
    -- the first two
    refine ⟨_, rfl, _, rfl, _, rfl, p, g, W, wide.map V.int, rfl, b4, SqL.of eW4, offW, wne, wl, fun j1 y1 H5 hy1 f5 b5 => ?_⟩
    obtain ⟨n1, hn1, rfl⟩ := ints_get hy1
    refine ⟨(by show 1 ≤ sizeLine; decide), fun A1 nA1 => ?_⟩
    generalize hh : upd _ A1 _ = H6
    obtain ⟨s6, eA1⟩ := made hh nA1
    clear hh
    refine ⟨p, g, A1, [n1], 2, rfl, b5.same s6, SqL.of eA1, (by show 1 ≤ 1000; decide), (by decide), (by decide), fun a M H7 f7 b7 lM na ea => ?_⟩
    have f47 : Fz [p, g] H4 H7 := f5.trans ((Fz.of s6).trans f7)
    have eW7 := f47 _ _ eW4 (.inl offW)
    refine ⟨_, rfl, _, rfl, p, g, W, wide.map V.int, rfl, b7, SqL.of eW7, offW, wne, wl, fun j2 y2 H8 hy2 f8 b8 => ?_⟩
    obtain ⟨n2, hn2, rfl⟩ := ints_get hy2
    refine ⟨(by show 1 ≤ sizeLine; decide), fun A2 nA2 => ?_⟩
    generalize hh : upd _ A2 _ = H9
    obtain ⟨s9, eA2⟩ := made hh nA2
    clear hh
    refine ⟨A2, [n2], rfl, SqL.of eA2, (by show 1 < 60; decide), fun Z c hc nZ => ?_⟩
    generalize hh : upd _ Z _ = H10
    obtain ⟨s10, eZ⟩ := made hh nZ
    clear hh
    refine ⟨Z, _, c, rfl, eZ, (by simp at hc; omega), fun N L2 _ _ lN nL2 => ?_⟩
    generalize hh : upd _ L2 _ = H11
    obtain ⟨s11, eL2⟩ := made hh nL2
    clear hh
    refine ⟨L2, _, rfl, .inl ⟨SqL.of eL2, fun b nb => ?_⟩⟩
    generalize hh : upd _ b _ = H12
    obtain ⟨s12, eb⟩ := made hh nb
    clear hh
    refine ⟨(by show 2 ≤ sizeLine; decide), fun P nP => ?_⟩
    generalize hh : upd _ P _ = H13
    obtain ⟨s13, eP⟩ := made hh nP
    clear hh
    have s8b := s9.trans (s10.trans (s11.trans (s12.trans s13)))
    have f713 : Fz [p, g] H7 H13 := f8.trans (Fz.of s8b)
    have f413 := f47.trans f713
    have ea13 : SqT K H13 a (M.map V.int) := f713.tup (SqT.inj ea)
    have eb13 : SqT K H13 b (N.map V.int) := SqT.inj (s13 _ _ eb)
    have b13 := b8.same s8b
    have eW13 := f413 _ _ eW4 (.inl offW)
    have lM' : M.length ≤ 100 := by
      simp at lM
      omega
    have lN' : N.length ≤ 100 := by
      simp at hc
      omega
    refine ⟨P, _, rfl, SqT.inj eP, rfl, _, _, rfl, _, _, rfl, rfl, ?_⟩
    -- if the turn is 2
    have nx : ∀ (a b : Addr) (y8 y9 y10 : Option V) (H5 : Hp), Fz [p, g] H H5 → Bag H5 p g → H5 W = some (.lst (wide.map V.int)) → ∃ (x5 x6 x7 x8 x9 x10 : Option V), [some (.ref p), some v, some (.ref R), some x, some (.ref W), some (.int i), some (.ref a), some (.ref b), y8, y9, y10, none, none] = [some (.ref p), some v, some (.ref R), some x, some (.ref W), x5, x6, x7, x8, x9, x10, none, none] ∧ Fz [p, g] H H5 ∧ Bag H5 p g ∧ H5 W = some (.lst (wide.map V.int)) :=
      fun a b y8 y9 y10 H5 h1 h2 h3 => ⟨_, _, _, _, _, _, rfl, h1, h2, h3⟩
    have at2 : ∀ (D : Ends) (a b : Addr) (M N : List Int) (H4 : Hp), (∀ (a b : Addr) (y8 y9 y10 : Option V) (H5 : Hp), Fz [p, g] H H5 → Bag H5 p g → H5 W = some (.lst (wide.map V.int)) → D.nx [some (.ref p), some v, some (.ref R), some x, some (.ref W), some (.int i), some (.ref a), some (.ref b), y8, y9, y10, none, none] H5) → Fz [p, g] H H4 → Bag H4 p g → H4 W = some (.lst (wide.map V.int)) → SqT K H4 a (M.map V.int) → M.length ≤ 100 → SqT K H4 b (N.map V.int) → N.length ≤ 100 →
        (tSeq (tIfS (tTest (tOp rEq (tVar 5) (tC (.int 2)))) (tAsg (tTup (tCons (tTup tNil) (tCons (tTup tNil) tNil))) (gTup K 2 (gCons (gName 6) (gCons (gName 7) gNil)))) tNext)
    (tSeq (tAsg (tKn (sp_lgmany K) (tCons (tVar 1) (tCons (tVar 6) (tCons (tVar 7) tNil)))) (gName 8))
    (tSeq (tIfS (tTest (tOp (fun x y H Q => y = .non ∧ Q (.bl (!decide (x = .non))) H) (tVar 3) (tC .non))) (tSeq (tAsg (tLc (iList K (tVar 3)) (gName 12) (tTest (tOp (rEqD K) (tLc (iTup K (tVar 6)) (gName 11) (tTest (tOp (rIn K true) (tVar 11) (tVar 12))) (tC (.int 1)) [11]) (tLst tNil))) (tVar 12) [12]) (gName 9))
    (tAsg (tCB (fun xs H Q => ∃ p ys, xs = [.ref p] ∧ (SqL K H p ys ∨ SqT K H p ys) ∧ Q (.int ys.length) H) (tCons (tLc (iList K (tVar 9)) (gName 12) (tTest (tOp (rEqD K) (tLc (iTup K (tVar 7)) (gName 11) (tTest (tOp (rIn K false) (tVar 11) (tVar 12))) (tC (.int 1)) [11]) (tLst tNil))) (tVar 12) [12]) tNil)) (gName 8))) tNext)
    (tSeq (tAsg (tIf (tTest (tOp (rI0 fun i j => .bl (decide (i < j))) (tVar 5) (tC (.int 3)))) (tKn (sp_gcount K) (tCons (tVar 1) (tCons (tVar 6) (tCons (tVar 7) tNil)))) (tCallBack (sp_gcount K) (fun _ => E0) (tCons (tVar 7) (tCons (tVar 6) (tCons (tVar 1) tNil))))) (gName 10))
    (tIfS (tTest (tOp rNe (tCB (fun xs H Q => ∃ i, xs = [.int i] ∧ i.natAbs.log2 < 1920 ∧ Q (.str (toString i)) H) (tCons (tVar 10) tNil)) (tCB (fun xs H Q => ∃ i, xs = [.int i] ∧ i.natAbs.log2 < 1920 ∧ Q (.str (toString i)) H) (tCons (tVar 8) tNil)))) (tRet (tC (.bl false))) tNext)))))
        D [some (.ref p), some v, some (.ref R), some x, some (.ref W), some (.int i), some (.ref a), some (.ref b), x8, x9, x10, none, none] H4 := by
      intro D a b M N H4 nx f4 b4 eW4 ha lM hb lN
      refine ⟨_, rfl, rfl, _, rfl, ?_⟩
      refine ite2 (fun _ => ?_) (fun _ => rest D i x8 x9 x10 a b M N H4 f4 b4 eW4 ha lM hb lN (nx a b))
      refine ⟨(by show 0 ≤ sizeLine; decide), fun a' na => ?_⟩
      generalize hh : upd _ a' _ = H5
      obtain ⟨s5, ea⟩ := made hh na
      clear hh
      refine ⟨(by show 0 ≤ sizeLine; decide), fun b' nb => ?_⟩
      generalize hh : upd _ b' _ = H6
      obtain ⟨s6, eb⟩ := made hh nb
      clear hh
      refine ⟨(by show 2 ≤ sizeLine; decide), fun P nP => ?_⟩
      generalize hh : upd _ P _ = H7
      obtain ⟨s7, eP⟩ := made hh nP
      clear hh
      have s47 := s5.trans (s6.trans s7)
      refine ⟨P, _, rfl, SqT.inj eP, rfl, _, _, rfl, _, _, rfl, rfl, ?_⟩
      exact rest D i x8 x9 x10 a' b' [] [] H7 (f4.trans (Fz.of s47)) (b4.same s47) (s47 _ _ eW4) (SqT.inj (s7 _ _ (s6 _ _ ea))) (Nat.zero_le _) (SqT.inj (s7 _ _ eb)) (Nat.zero_le _) (nx a' b')
    refine ⟨_, rfl, rfl, _, rfl, ?_⟩
    refine ite2 (fun _ => ?_) (fun _ => at2 _ a b M N H13 nx (f4.trans f413) b13 eW13 ea13 lM' eb13 lN')
    -- the turn is 1
    refine ⟨_, rfl, _, rfl, p, g, W, wide.map V.int, rfl, b13, SqL.of eW13, offW, wne, wl, fun j3 y3 H14 hy3 f14 b14 => ?_⟩
    obtain ⟨n3, hn3, rfl⟩ := ints_get hy3
    have eW14 := f14 _ _ eW13 (.inl offW)
    refine ⟨_, rfl, _, rfl, p, g, W, wide.map V.int, rfl, b14, SqL.of eW14, offW, wne, wl, fun j4 y4 H15 hy4 f15 b15 => ?_⟩
    obtain ⟨n4, hn4, rfl⟩ := ints_get hy4
    refine ⟨(by show 2 ≤ sizeLine; decide), fun A3 nA3 => ?_⟩
    generalize hh : upd _ A3 _ = H16
    obtain ⟨s16, eA3⟩ := made hh nA3
    clear hh
    refine ⟨A3, [n3, n4], rfl, SqL.of eA3, (by show 2 < 60; decide), fun Z2 c2 hc2 nZ2 => ?_⟩
    generalize hh : upd _ Z2 _ = H17
    obtain ⟨s17, eZ2⟩ := made hh nZ2
    clear hh
    refine ⟨Z2, _, c2, rfl, eZ2, (by simp at hc2; omega), fun N2 L3 _ _ lN2 nL3 => ?_⟩
    generalize hh : upd _ L3 _ = H18
    obtain ⟨s18, eL3⟩ := made hh nL3
    clear hh
    refine ⟨L3, _, rfl, .inl ⟨SqL.of eL3, fun a2 na2 => ?_⟩⟩
    generalize hh : upd _ a2 _ = H19
    obtain ⟨s19, ea2⟩ := made hh na2
    clear hh
    have s1519 := s16.trans (s17.trans (s18.trans s19))
    have f1319 : Fz [p, g] H13 H19 := f14.trans (f15.trans (Fz.of s1519))
    have f019 := (f4.trans f413).trans f1319
    have b19 := b15.same s1519
    have hR19 := f019 _ _ hR (.inl offR)
    refine ⟨_, rfl, _, rfl, p, g, R, row, 2, rfl, b19, SqL.of hR19, (by omega), (by decide), (by decide), fun b2 M2 H20 f20 b20 lM2 nb2 eb2 => ?_⟩
    refine ⟨(by show 2 ≤ sizeLine; decide), fun P2 nP2 => ?_⟩
    generalize hh : upd _ P2 _ = H21
    obtain ⟨s21, eP2⟩ := made hh nP2
    clear hh
    refine ⟨P2, _, rfl, SqT.inj eP2, rfl, _, _, rfl, _, _, rfl, rfl, ?_⟩
    have f1921 : Fz [p, g] H19 H21 := f20.trans (Fz.of s21)
    exact at2 _ a2 b2 N2 M2 H21 nx (f019.trans f1921) (b20.same s21) ((f1319.trans f1921) _ _ eW13 (.inl offW)) (f1921.tup (SqT.inj ea2)) (by simp at hc2; omega) (SqT.inj (s21 _ _ eb2)) (by omega)
  · rintro σ H4 ⟨x5, x6, x7, x8, x9, x10, rfl, f4, b4, eW4⟩
    exact q H4 f4 b4
end K19

namespace K19
open PySem PySem.Spec PyProof.Rows L2

theorem lexg_asc (g : List Int → Bool) : ∀ (r lot s : List Int), (lot ++ r).Pairwise (· < ·) → s ∈ lexg g lot r → s.Pairwise (· < ·)
  | [], lot, s, _, h => nomatch h
  | b :: r, lot, s, hp, h => by
    have hp' : ((lot ++ [b]) ++ r).Pairwise (· < ·) := by simpa using hp
    have hp2 : (lot ++ r).Pairwise (· < ·) := hp.sublist (List.Sublist.append (List.Sublist.refl lot) (List.sublist_cons_self b r))
    simp only [lexg, List.mem_append] at h
    rcases h with h | h | h
    · by_cases c : g (lot ++ [b]) = true
      · rw [if_pos c] at h
        rw [List.mem_singleton.mp h]
        exact hp'.sublist (List.sublist_append_left _ _)
      · rw [if_neg c] at h
        cases h
    · exact lexg_asc g r (lot ++ [b]) s hp' h
    · exact lexg_asc g r lot s hp2 h
theorem lots_ok {t : Tr} {row l : List Int} (ok : TreeOk t row) (h : l ∈ lots t row) : LotOk t row l := by
  obtain ⟨g, c, u, e, hc, hu⟩ := lexg_mem _ row [] l h
  refine ⟨lexg_asc _ row [] l (by simpa using ok.asc) h, fun x hx => ?_, g⟩
  rw [e, List.nil_append] at hx
  rcases List.mem_cons.mp hx with q | q
  · rw [q]
    exact hc
  · exact hu x q
theorem TreeOk.many {t : Tr} {row : List Int} (ok : TreeOk t row) : (t.sides [] []).1 = ((lots t row).length : Int) := (lots_length t row ok.wf ok.perm ok.nodup).symm
theorem TreeOk.few24 {t : Tr} {row : List Int} (ok : TreeOk t row) (h : row.length ≤ 24) : (lots t row).length ≤ 16777216 := by
  have h1 := (sides_ok [] [] t ok.wf ok.leaves).1
  have h2 := (cnt_bound [] [] t.leaves (fun s => ind (t.goes s)) fun s => ind_bound _).2
  rw [← h1, ok.many] at h2
  have h3 : (2 : Int) ^ t.leaves.length ≤ 2 ^ 24 := by
    have := Nat.pow_le_pow_right (n := 2) (by decide) (show t.leaves.length ≤ 24 by rw [ok.perm.length_eq]; exact h)
    exact_mod_cast this
  omega
theorem TreeOk.some_lot {t : Tr} {row : List Int} (ok : TreeOk t row) (h : row ≠ []) : 0 < (lots t row).length := mem_lots_full t row ok.wf ok.perm h
theorem walk_zipT {K : PySem.W.Frag} {a b : Addr} {xs ys : List V} {n : Nat} (hn : n = min xs.length ys.length) : Walk (RZ.ItzT K a b) n (fun H => SqT K H a xs ∧ SqT K H b ys) (YPair (fun i => xs[i]?) (fun i => ys[i]?)) := by
  subst hn
  refine ⟨fun i _ hi q => ?_, fun _ q => ⟨xs, ys, q.1, q.2, by omega⟩, fun i H v H' _ q y => ?_⟩
  · have h1 : i < xs.length := by omega
    have h2 : i < ys.length := by omega
    exact ⟨xs, ys, xs[i], ys[i], q.1, q.2, by simp [h1], by simp [h2]⟩
  · obtain ⟨T, x, z, h1, h2, h3, h4, h5⟩ := y
    exact ⟨T, x, z, h1, h2, h3, h4 xs q.1, h5 ys q.2⟩
/-- [1 for own in some if own not in row or isinstance(own, bool)] -/
theorem none_other {l row : List Int} (h : ∀ x ∈ l, x ∈ row) : (l.map V.int).filter (fun v => match v with | .int n => !decide (n ∈ row) | _ => false) = [] := by
  rw [List.filter_eq_nil_iff]
  intro v hv
  obtain ⟨n, hn, rfl⟩ := List.mem_map.mp hv
  simp [h n hn]

/-! ### _law_is_widest -/
def sp_lwide (K : PySem.W.Frag) : Sp := fun vs H Q _ => ∃ (p g : Addr), vs = [.ref p] ∧ Bag H p g ∧ ∀ H', Fz [p, g] H H' → Bag H' p g → Q (.bl true) H'
theorem len_lwide {K : PySem.W.Frag} : ∀ vs H Q E, sp_lwide K vs H Q E → vs.length = ["_law_bag_here"].length := fun vs H Q E h => by
  obtain ⟨p, g, rfl, _⟩ := h
  rfl
set_option maxHeartbeats 16000000 in
theorem law_lwide {K : PySem.W.Frag} {w : World} (vs : List V) (H : Hp) (Q : VK) (E : XK) (h : sp_lwide K vs H Q E) : t_lwide K w (sp_ldraw K) (sp_lmixed K) (sp_lbuttons K) (sp_gmany K 8) (sp_lpick K) (sp_ltold K) (sp_goes K 8) (sp_lnumber K) { nx := fun _ H' => Q .non H', rt := Q } (start N_lwide vs) H := by
  obtain ⟨p, g, rfl, hb, q⟩ := h
  -- the buttons
  refine ⟨_, rfl, _, rfl, p, g, 24, rfl, hb, by decide, by decide, fun r0 row H1 f1 b1 n0 e0 asc lrow btn => ?_⟩
  have lrow' : row.length = 24 := lrow
  refine ⟨p, g, r0, row, rfl, b1, SqL.of e0, by omega, fun r l H2 pm f2 b2 n2 e2 => ?_⟩
  have ll : l.length = 24 := by rw [pm.length_eq, lrow']
  refine ⟨_, rfl, p, g, 9, rfl, b2, by decide, by decide, fun d H3 d0 d1 f3 b3 => ⟨8, d, rfl, rfl, ?_⟩⟩
  have offr : Off p g r := b1.off n2
  refine ⟨(by show 2 ≤ sizeLine; decide), fun P1 nP1 => ?_⟩
  generalize hh : upd _ P1 _ = H4
  obtain ⟨s4, eP1⟩ := made hh nP1
  clear hh
  have f04 : Fz [p, g] H H4 := f1.trans (f2.trans (f3.trans (Fz.of s4)))
  have b4 := b3.same s4
  have e4 : H4 r = some (.lst (l.map V.int)) := s4 _ _ (f3 _ _ e2 (.inl offr))
  refine ⟨P1, _, rfl, SqT.inj eP1, rfl, _, _, rfl, _, _, rfl, rfl, ?_⟩
  -- the parts
  refine ⟨_, rfl, _, rfl, p, g, 8 + d, rfl, b4, by omega, by omega, fun d1' H5 k0 k1 f5 b5 => ⟨1, d1', rfl, rfl, ?_⟩⟩
  have e5 := f5 _ _ e4 (.inl offr)
  refine ⟨_, rfl, _, rfl, 8 + d, rfl, r, _, rfl, SqL.of e5, fun S1 nS1 => ?_⟩
  rw [cut_to (by omega), ← List.map_take]
  generalize hh : upd _ S1 _ = H6
  obtain ⟨s6, eS1⟩ := made hh nS1
  clear hh
  refine ⟨S1, _, rfl, .inl ⟨SqL.of eS1, fun y1 ny1 => ?_⟩⟩
  generalize hh : upd _ y1 _ = H7
  obtain ⟨s7, ey1⟩ := made hh ny1
  clear hh
  refine ⟨(by show 2 ≤ sizeLine; decide), fun x1 nx1 => ?_⟩
  generalize hh : upd _ x1 _ = H8
  obtain ⟨s8, ex1⟩ := made hh nx1
  clear hh
  have s58 := s6.trans (s7.trans s8)
  have b8 := b5.same s58
  refine ⟨_, rfl, _, rfl, 24, 8 + d, rfl, rfl, p, g, 24 - (8 + d), rfl, b8, by omega, by omega, fun d2 H9 k2 k3 f9 b9 => ⟨1, d2, rfl, rfl, ?_⟩⟩
  have f59 : Fz [p, g] H5 H9 := (Fz.of s58).trans f9
  have e9 := f59 _ _ e5 (.inl offr)
  refine ⟨_, rfl, _, rfl, 8 + d, rfl, ?_⟩
  dsimp only [tNoPart]
  refine ⟨r, _, rfl, SqL.of e9, fun S2 nS2 => ?_⟩
  rw [cut_from (by omega), ← List.map_drop]
  generalize hh : upd _ S2 _ = H10
  obtain ⟨s10, eS2⟩ := made hh nS2
  clear hh
  refine ⟨S2, _, rfl, .inl ⟨SqL.of eS2, fun y2 ny2 => ?_⟩⟩
  generalize hh : upd _ y2 _ = H11
  obtain ⟨s11, ey2⟩ := made hh ny2
  clear hh
  refine ⟨(by show 2 ≤ sizeLine; decide), fun x2 nx2 => ?_⟩
  generalize hh : upd _ x2 _ = H12
  obtain ⟨s12, ex2⟩ := made hh nx2
  clear hh
  refine ⟨(by show 2 ≤ sizeLine; decide), fun pp npp => ?_⟩
  generalize hh : upd _ pp _ = H13
  obtain ⟨s13, epp⟩ := made hh npp
  clear hh
  have s913 := s10.trans (s11.trans (s12.trans s13))
  have b13 := b9.same s913
  -- the tree
  refine ⟨_, rfl, p, g, 2, rfl, b13, by decide, by decide, fun d3 H14 k4 k5 f14 b14 => ⟨1, d3, rfl, rfl, _, rfl, (by show 2 ≤ sizeLine; decide), fun ta nta => ?_⟩⟩
  generalize hh : upd _ ta _ = H15
  obtain ⟨s15, eta⟩ := made hh nta
  clear hh
  have f1315 : Fz [p, g] H13 H15 := f14.trans (Fz.of s15)
  have f815 : Fz [p, g] H8 H15 := f9.trans ((Fz.of s913).trans f1315)
  have b15 := b14.same s15
  obtain ⟨t, et⟩ : ∃ t : Tr, t = .node (1 + d3) [.node (1 + d1') ((l.take (8 + d).toNat).map Tr.leaf), .node (1 + d2) ((l.drop (8 + d).toNat).map Tr.leaf)] := ⟨_, rfl⟩
  have ok : TreeOk t row := by
    subst et
    refine ⟨?_, ?_, asc, by omega, ?_⟩
    · simp only [Tr.wf, Tr.wfAll, List.length_map, List.length_take, List.length_drop, List.length_cons, List.length_nil]
      refine ⟨by omega, by omega, ⟨by omega, by omega, leaf_wf _ fun x hx => btn x (pm.mem_iff.mp (List.mem_of_mem_take hx))⟩, ⟨by omega, by omega, leaf_wf _ fun x hx => btn x (pm.mem_iff.mp (List.mem_of_mem_drop hx))⟩, trivial⟩
    · simp only [Tr.leaves, Tr.leavesAll, leaf_leaves, List.append_nil, List.take_append_drop]
      exact pm
    · simp only [Tr.depth, Tr.depthAll, leaf_depth]
      decide
  have ht : TrAt K H15 t (.ref ta) := by
    subst et
    simp only [TrAt, TrAll]
    refine ⟨ta, pp, [.ref x1, .ref x2], rfl, SqT.inj eta, f1315.tup (SqT.inj epp), _, _, rfl, ⟨x1, y1, _, rfl, f815.tup (SqT.inj ex1), f815.tup (SqT.inj (s8 _ _ ey1)), leaf_all _⟩, _, _, rfl, ⟨x2, y2, _, rfl, ((Fz.of (ex := [p, g]) s13).trans f1315).tup (SqT.inj ex2), ((Fz.of (ex := [p, g]) (s12.trans s13)).trans f1315).tup (SqT.inj ey2), leaf_all _⟩, rfl⟩
  have f015 : Fz [p, g] H H15 := f04.trans (f5.trans ((Fz.of s58).trans f815))
  have e15 : H15 r = some (.lst (l.map V.int)) := f1315 _ _ (s913 _ _ e9) (.inl offr)
  clear et
  have rne : row ≠ [] := fun z => by
    rw [z] at lrow'
    cases lrow'
  have pos := ok.some_lot rne
  have big := ok.few24 (by omega)
  have few : t.leaves.length ≤ 1000 := by have := ok.len; omega
  -- how many
  refine ⟨_, rfl, (by show 0 ≤ sizeLine; decide), fun A nA => ?_⟩
  generalize hh : upd _ A _ = H16
  obtain ⟨s16, eA⟩ := made hh nA
  clear hh
  refine ⟨(by show 0 ≤ sizeLine; decide), fun B nB => ?_⟩
  generalize hh : upd _ B _ = H17
  obtain ⟨s17, eB⟩ := made hh nB
  clear hh
  have s1517 := s16.trans s17
  refine ⟨t, .ref ta, A, B, [], [], rfl, TrAt.fz (Fz.of (ex := []) s1517) t _ ht, .inr (SqT.inj (s17 _ _ eA)), .inr (SqT.inj eB), ok.deep, ok.wf, ok.leaves, ok.len, fun G H18 s18 nG eG => ?_⟩
  rw [ok.many] at eG
  refine ⟨G, _, 0, _, rfl, rfl, SqT.inj eG, rfl, ?_⟩
  have s1518 := s1517.trans s18
  have b18 := b15.same s1518
  -- a number
  have hm : 0 < ((lots t row).length : Int) := by omega
  refine ⟨_, rfl, _, rfl, _, 1, rfl, rfl, _, rfl, _, rfl, p, g, _, rfl, b18, hm, by omega, fun u1 H19 v0 v1 f19 b19 => ?_⟩
  refine ⟨_, rfl, _, 1, rfl, rfl, _, rfl, _, rfl, _, 1000, rfl, p, g, _, rfl, b19, (by split <;> omega), (by split <;> omega), fun u2 H20 v2 v3 f20 b20 => ⟨_, u2, rfl, rfl, (by show 3 ≤ sizeLine; decide), fun L nL => ?_⟩⟩
  have v3' : u2 < (lots t row).length := by
    split at v3 <;> omega
  clear v3
  generalize hh : upd _ L _ = H21
  obtain ⟨s21, eL⟩ := made hh nL
  clear hh
  refine ⟨p, g, L, ([((lots t row).length : Int) - 1, u1, ((lots t row).length : Int) - 1 - u2] : List Int).map V.int, rfl, b20.same s21, SqL.of eL, b20.off nL, (by simp), (by show 3 < 1073741824; decide), fun i v H22 hv f22 b22 => ?_⟩
  obtain ⟨z, hz, rfl⟩ := ints_get hv
  have hz' : ∃ k : Nat, z = (k : Int) ∧ k < (lots t row).length := by
    have := List.mem_of_getElem? hz
    simp only [List.mem_cons, List.not_mem_nil, or_false] at this
    rcases this with e | e | e <;> exact ⟨z.toNat, by omega, by omega⟩
  obtain ⟨k, rfl, hk⟩ := hz'
  obtain ⟨lot, hlot⟩ : ∃ lot, (lots t row)[k]? = some lot := ⟨_, List.getElem?_eq_getElem hk⟩
  have lo := lots_ok ok (List.mem_of_getElem? hlot)
  have f1522 : Fz [p, g] H15 H22 := (Fz.of s1518).trans (f19.trans (f20.trans ((Fz.of s21).trans f22)))
  -- it is told
  refine ⟨_, rfl, _, rfl, _, rfl, p, g, 2, rfl, b22, by decide, by decide, fun wy H23 w0 w1 f23 b23 => ?_⟩
  have f1523 := f1522.trans f23
  refine ⟨t, row, .ref ta, _, _, wy, rfl, TrAt.fz f1523 t _ ht, ok, any_int k, w0, by omega, fun _ => ⟨fun k' l' e hk' R c H24 s24 nR hc eR => ?_, fun no => ?_⟩, fun z => absurd z (by omega)⟩
  case refine_2 =>
    exfalso
    have : (decide (0 ≤ (k : Int)) && decide ((k : Int) < ((lots t row).length : Int))) = false := no
    rw [decide_eq_true (by omega), decide_eq_true (by omega)] at this
    cases this
  have ek : k' = k := by
    have := V.int.inj e
    omega
  subst ek
  rw [hlot] at hk'
  cases hk'
  have f024 : Fz [p, g] H H24 := f015.trans (f1523.trans (Fz.of s24))
  have f1524 : Fz [p, g] H15 H24 := f1523.trans (Fz.of s24)
  have b24 := b23.same s24
  have ht24 := TrAt.fz f1524 t _ ht
  have e24 := f1524 _ _ e15 (.inl offr)
  have any24 := any_tup hc
  refine ⟨_, rfl, R, _, 0, .str "told", rfl, rfl, SqL.of eR, rfl, rfl, _, rfl, iteF ?_⟩
  refine ⟨_, rfl, R, _, 1, .ref c, rfl, rfl, SqL.of eR, rfl, .ref c, .ty "tuple", _, _, _, rfl, .ty "tuple", any24.ty, isi_ans any24.kn (by simp), _, rfl, iteF ?_⟩
  refine ⟨_, rfl, R, _, 1, .ref c, rfl, rfl, SqL.of eR, rfl, ?_⟩
  -- of the row, no bool
  have sub : ∀ x ∈ lot, x ∈ l := fun x hx => pm.mem_iff.mpr (lo.sub x hx)
  refine ⟨_, rfl, c, rfl, ⟨_, hc⟩, fun D nD => lcfil (walk_tup (K := K) (a := c) (xs := lot.map V.int)) (fun H6 s6 => (Fz.of (ex := []) s6).tup hc) (by have := lo.len ok; rw [List.length_map]; omega) (fun _ => rfl)
    (fun v => match v with | .int n => !decide (n ∈ l) | _ => false) (fun _ => .int 1) (fun v H6 Q6 hv s6 q6 => ?_) (fun v H6 Q6 _ _ _ q6 => q6) nD fun H25 s25 eD => ?_⟩
  · obtain ⟨n, hn, rfl⟩ := List.mem_map.mp hv
    refine ⟨_, rfl, _, rfl, r, _, rfl, .inl (SqL.of (s6 _ _ e24)), rfl, flat_ints l, _, rfl, ?_⟩
    rw [if_pos rfl, inV_ints]
    have q7 := q6 H6 (Same.refl H6)
    simp only [sub n hn, decide_true, Bool.not_true] at q7 ⊢
    refine iteF ?_
    exact ⟨_, rfl, .int n, .ty "bool", _, _, _, rfl, .ty "bool", (any_int (K := K) (H := H6) n).ty, isi_ans (any_int (K := K) (H := H6) n).kn (by simp), _, rfl, q7⟩
  rw [none_other sub] at eD
  refine ⟨(by show 0 ≤ sizeLine; decide), fun z nz => ?_⟩
  generalize hh : upd _ z _ = H26
  obtain ⟨s26, ez⟩ := made hh nz
  clear hh
  refine ne_nil (ns := []) (s26 _ _ eD) ez ?_
  refine ⟨_, rfl, iteF ?_⟩
  have s2426 := s25.trans s26
  -- ascending
  have hc26 := (Fz.of (ex := []) s2426).tup hc
  refine ⟨_, rfl, _, rfl, 1, rfl, ?_⟩
  dsimp only [tNoPart]
  refine sl_from1 (by decide) hc26 fun P H27 s27 hP => ?_
  have hc27 := (Fz.of (ex := []) s27).tup hc26
  refine ⟨c, P, _, _, rfl, .inr ⟨hc27, hP, fun D nD => lc_it (walk_zipT (K := K) (a := c) (b := P) (xs := lot.map V.int) (ys := (lot.drop (1 : Int).toNat).map V.int) rfl)
    (fun i H6 => Same H27 H6 ∧ H6 D = some (.lst [])) ⟨new_same _ nD, upd_same⟩ (fun i H6 _ hP' => ⟨(Fz.of (ex := []) hP'.1).tup hc27, (Fz.of (ex := []) hP'.1).tup hP⟩) ?_ ?_⟩⟩
  · rintro i v H6 H7 hi ⟨s6, e6⟩ ⟨T, y1, y2, rfl, nT, rfl, hy1, hy2⟩
    obtain ⟨m1, hm1, rfl⟩ := ints_get hy1
    obtain ⟨m2, hm2, rfl⟩ := ints_get hy2
    rw [List.getElem?_drop] at hm2
    have lt : m1 < m2 := (asc_index lo.asc hm1 hm2).mpr (by show i < (1 : Int).toNat + i; have : (1 : Int).toNat = 1 := rfl; omega)
    refine ⟨T, _, rfl, SqT.inj upd_same, rfl, _, _, rfl, _, _, rfl, rfl, rfl, _, rfl, _, rfl, m1, m2, rfl, rfl, _, rfl, ?_⟩
    rw [decide_eq_false (by omega)]
    exact iteF ⟨s6.trans (new_same _ nT), by rw [upd_ne (ne_of_none e6 nT)]; exact e6⟩
  rintro H28 ⟨s28, e28⟩
  refine ⟨(by show 0 ≤ sizeLine; decide), fun z2 nz2 => ?_⟩
  generalize hh : upd _ z2 _ = H29
  obtain ⟨s29, ez2⟩ := made hh nz2
  clear hh
  refine ne_nil (ns := []) (s29 _ _ e28) ez2 ?_
  refine ⟨_, rfl, iteF ?_⟩
  have s2429 := s2426.trans (s27.trans (s28.trans s29))
  -- it goes, and its number
  have hc29 := (Fz.of (ex := []) s2429).tup hc
  refine ⟨_, rfl, _, rfl, t, .ref ta, c, lot, rfl, TrAt.fz (Fz.of (ex := []) s2429) t _ ht24, .inr hc29, ok.deep, ok.wf, few, fun H30 s30 => ⟨_, rfl, ?_⟩⟩
  rw [lo.go]
  refine iteT ?_
  have s2430 := s2429.trans s30
  refine ⟨_, rfl, _, rfl, t, row, .ref ta, c, lot, _, rfl, TrAt.fz (Fz.of (ex := []) s2430) t _ ht24, ok, (Fz.of (ex := []) s30).tup hc29, lo, hlot, fun H31 s31 => ⟨_, rfl, rfl, ?_⟩⟩
  rw [decide_eq_true rfl]
  have s2431 := s2430.trans s31
  exact q H31 (f024.trans (Fz.of s2431)) (b24.same s2431)
end K19

namespace K19
open PySem PySem.Spec PyProof.Rows L2

/-! ### what is told, as data -/
def dTold (l : List Int) : PyData := .list [.str "told", .tuple (l.map PyData.int)]
def dNum (k : Int) : PyData := .list [.str "told", .int k]
def dBoth (l : List Int) (k : Int) : PyData := .list [dTold l, dNum k]
theorem show_ints : ∀ l : List Int, (∀ x ∈ l, 0 ≤ x ∧ x ≤ 99) → PyData.showableAll (l.map PyData.int) = true
  | [], _ => by simp [PyData.showableAll]
  | x :: l, h => by
    have h1 := small_text (h x List.mem_cons_self)
    simp only [List.map_cons, PyData.showableAll, PyData.showable, show_ints l fun y hy => h y (List.mem_cons_of_mem _ hy), decide_eq_true h1, Bool.and_self]
theorem nodict_ints : ∀ l : List Int, PyData.hasDictAll (l.map PyData.int) = false
  | [] => by simp [PyData.hasDictAll]
  | x :: l => by simp only [List.map_cons, PyData.hasDictAll, PyData.hasDict, nodict_ints l, Bool.or_self]
theorem weight_int {x : Int} {n : Nat} (h : x.natAbs < 2 ^ n) : PyData.weight (.int x) ≤ n + 1 := by
  simp only [PyData.weight]
  split
  · exact Nat.zero_le _
  · rename_i c
    have e : x.natAbs ≠ 0 := fun z => c (by
      have : x = 0 := by omega
      rw [this]
      rfl)
    have := (Nat.log2_lt e).mpr h
    omega
theorem weight_ints : ∀ l : List Int, (∀ x ∈ l, 0 ≤ x ∧ x ≤ 99) → PyData.weightAll (l.map PyData.int) ≤ 9 * l.length
  | [], _ => by simp [PyData.weightAll]
  | x :: l, h => by
    have h1 := h x List.mem_cons_self
    have h2 := weight_int (x := x) (n := 7) (by omega)
    have h3 := weight_ints l fun y hy => h y (List.mem_cons_of_mem _ hy)
    simp only [List.map_cons, PyData.weightAll, List.length_cons]
    omega
structure Shows (d : PyData) : Prop where
  s : d.showable = true
  n : d.hasDict = false
  dp : d.depth ≤ 60
  l : d.shown.length ≤ sizeLine
theorem repr_is {K : PySem.W.Frag} {H : Hp} {a : Addr} {d : PyData} {Q : VK} (h : Dp K H (.ref a) d) (o : Shows d) (q : Q (.str d.shown) H) : rRepr K [.ref a] H Q := ⟨_, a, d, rfl, rfl, h, o.s, o.n, o.dp, o.l, q⟩
theorem told_weight : PyData.weight (.str "told") = 4 := by decide +kernel
theorem told_lay : PyData.canLay0 (.str "told") = true := by decide +kernel
theorem shows_num {k : Nat} (hk : k ≤ 16777216) : Shows (dNum k) := by
  have h0 : ((k : Int)).natAbs < 2 ^ 25 := by omega
  have hw := weight_int h0
  refine ⟨?_, by simp [dNum, PyData.hasDict, PyData.hasDictAll], ?_, ?_⟩
  · have := wide_text (i := (k : Int)) ⟨by omega, by omega⟩
    simp only [dNum, PyData.showable, PyData.showableAll, decide_eq_true this, Bool.and_self]
  · simp only [dNum, PyData.depth, PyData.depthAll]
    decide
  · have e : PyData.layable0 (dNum k) = true := by
      unfold PyData.layable0
      have e1 : PyData.canLay0 (dNum k) = true := by
        simp only [dNum, PyData.canLay0, PyData.canLayAll0, Bool.and_true]
        exact told_lay
      have e2 : PyData.depth (dNum k) ≤ 64 := by
        simp only [dNum, PyData.depth, PyData.depthAll]
        decide
      have e3 : PyData.weight (dNum k) ≤ 2 ^ 20 := by
        simp only [dNum, PyData.weight.eq_2, PyData.weightAll, told_weight]
        omega
      simp only [e1, decide_eq_true e2, decide_eq_true e3, Bool.and_self]
    have := PyData.shown_le_of_layable0 e (by
      simp only [dNum, PyData.intsShort, PyData.intsShortAll, Bool.true_and, Bool.and_true]
      exact decide_eq_true (PyData.shown_int_le (by omega)))
    have : sizeLine = 16777216 := rfl
    omega
theorem shows_both {l : List Int} {k : Nat} (hb : ∀ x ∈ l, 0 ≤ x ∧ x ≤ 99) (hl : l.length ≤ 60) (hk : k ≤ 16777216) : Shows (dBoth l k) := by
  have h0 : ((k : Int)).natAbs < 2 ^ 25 := by omega
  have hw := weight_int h0
  have hw2 := weight_ints l hb
  refine ⟨?_, by simp [dBoth, dTold, dNum, PyData.hasDict, PyData.hasDictAll, nodict_ints], ?_, ?_⟩
  · have := wide_text (i := (k : Int)) ⟨by omega, by omega⟩
    simp only [dBoth, dTold, dNum, PyData.showable, PyData.showableAll, decide_eq_true this, show_ints l hb, Bool.and_self]
  · simp only [dBoth, dTold, dNum, PyData.depth, PyData.depthAll, PySem.W.depth_ints]
    decide
  · have e : PyData.layable0 (dBoth l k) = true := by
      unfold PyData.layable0
      have e1 : PyData.canLay0 (dBoth l k) = true := by
        have := told_lay
        simp only [PyData.canLay0] at this
        simp only [dBoth, dTold, dNum, PyData.canLay0, PyData.canLayAll0, Bool.and_true, lay_ints, this]
      have e2 : PyData.depth (dBoth l k) ≤ 64 := by
        simp only [dBoth, dTold, dNum, PyData.depth, PyData.depthAll, PySem.W.depth_ints]
        decide
      have e3 : PyData.weight (dBoth l k) ≤ 2 ^ 20 := by
        simp only [dBoth, dTold, dNum, PyData.weight.eq_2, PyData.weight.eq_3, PyData.weightAll, told_weight]
        omega
      simp only [e1, decide_eq_true e2, decide_eq_true e3, Bool.and_self]
    have := PyData.shown_le_of_layable0 e (by
      simp only [dBoth, dTold, dNum, PyData.intsShort, PyData.intsShortAll, Bool.true_and, Bool.and_true]
      rw [PyData.intsShortAll_ints l fun n hn => by have := hb n hn; omega]
      rw [Bool.true_and]
      exact decide_eq_true (PyData.shown_int_le (by omega)))
    have : sizeLine = 16777216 := rfl
    omega
theorem dp_num {K : PySem.W.Frag} {H : Hp} {a : Addr} {k : Int} (h : H a = some (.lst [.str "told", .int k])) : Dp K H (.ref a) (dNum k) := .lst (SqL.of h) (.cons (.str _) (.cons (.int _) .nil))
theorem dp_told {K : PySem.W.Frag} {H : Hp} {a c : Addr} {l : List Int} (h : H a = some (.lst [.str "told", .ref c])) (hc : SqT K H c (l.map V.int)) : Dp K H (.ref a) (dTold l) := .lst (SqL.of h) (.cons (.str _) (.cons (.tup hc (dp_ints l)) .nil))
theorem dp_both {K : PySem.W.Frag} {H : Hp} {a b c : Addr} {l : List Int} {k : Int} (h : H a = some (.lst [.ref b, .ref c])) (hb : Dp K H (.ref b) (dTold l)) (hc : Dp K H (.ref c) (dNum k)) : Dp K H (.ref a) (dBoth l k) := .lst (SqL.of h) (.cons hb (.cons hc .nil))
end K19

namespace K19
open PySem PySem.Spec PyProof.Rows L2

theorem isPl_in {n k : Nat} (h : k < n) : isPl (n : Int) (.int (k : Int)) = true := by
  show (decide (0 ≤ (k : Int)) && decide ((k : Int) < (n : Int))) = true
  rw [decide_eq_true (by omega), decide_eq_true (by omega)]
  rfl
/-- _law_told of a number that is one -/
theorem told_at {K : PySem.W.Frag} {H : Hp} {Q : VK} {E : XK} {t : Tr} {row : List Int} {v : V} {k : Nat} {l : List Int} {way : Int} (ht : TrAt K H t v) (ok : TreeOk t row) (hk : (lots t row)[k]? = some l) (h0 : 0 ≤ way) (h1 : way < 2)
    (q : ∀ (r c : Addr) (H' : Hp), Same H H' → H r = none → SqT K H' c (l.map V.int) → H' r = some (.lst [.str "told", .ref c]) → Q (.ref r) H') : sp_ltold K [v, .int (k : Int), .int way] H Q E := by
  refine ⟨t, row, v, _, _, way, rfl, ht, ok, any_int _, h0, by omega, fun _ => ⟨fun k' l' e hk' r c H' s nr hc er => ?_, fun no => ?_⟩, fun z => absurd z (by omega)⟩
  · have ek : k' = k := by
      have := V.int.inj e
      omega
    subst ek
    rw [hk] at hk'
    cases hk'
    exact q r c H' s nr hc er
  · rw [isPl_in (List.getElem?_eq_some_iff.mp hk).1] at no
    cases no
/-- _law_told of a lot that goes -/
theorem told_num {K : PySem.W.Frag} {H : Hp} {Q : VK} {E : XK} {t : Tr} {row : List Int} {v : V} {k : Nat} {a : Addr} {l : List Int} {way : Int} (ht : TrAt K H t v) (ok : TreeOk t row) (hk : (lots t row)[k]? = some l) (ha : SqT K H a (l.map V.int)) (h0 : 2 ≤ way) (h1 : way ≤ 3)
    (q : ∀ (r : Addr) (H' : Hp), Same H H' → H r = none → H' r = some (.lst [.str "told", .int (k : Int)]) → Q (.ref r) H') : sp_ltold K [v, .ref a, .int way] H Q E := by
  have lo := lots_ok ok (List.mem_of_getElem? hk)
  refine ⟨t, row, v, _, _, way, rfl, ht, ok, any_tup ha, by omega, h1, fun z => absurd z (by omega), fun _ => .inr ⟨rfl, a, _, rfl, ha, fun y hy => ?_, ?_, fun l' k' e lo' hk' r H' s nr er => ?_, fun no => absurd ⟨l, rfl, lo⟩ no⟩⟩
  · obtain ⟨n, _, rfl⟩ := List.mem_map.mp hy
    exact ⟨_, any_int n⟩
  · have := lo.len ok
    rw [List.length_map]
    omega
  · have e2 := map_int_inj e
    subst e2
    have := place_one (lots_sorted t row ok.asc) hk' hk
    subst this
    exact q r H' s nr er
def sp_llaw (K : PySem.W.Frag) : Sp := fun vs H Q _ => ∃ (s : Addr) (ns : List Int), vs = [.ref s] ∧ SqL K H s (ns.map V.int) ∧ ns.length ≤ 1000 ∧ ∀ H', Q (.bl true) H'
theorem lex_pair {cs : List (Addr × List Int)} (h : cs.Pairwise fun x y => x.2 ≤ y.2) : (cs.map (·.2)).Pairwise (fun a b => a ≤ b) := List.pairwise_map.mpr h
set_option maxHeartbeats 16000000 in
theorem law_llaw {K : PySem.W.Frag} {w : World} (vs : List V) (H : Hp) (Q : VK) (E : XK) (h : sp_llaw K vs H Q E) :
    t_llaw K w (sp_lbag K) (sp_lbuttons K) (sp_ldraw K) (sp_ltree K 6) (sp_lmixed K) (sp_levery K) (sp_lwords K 8) (sp_ltold K) (sp_lcounted K) (sp_lodd K) (sp_lpick K) (sp_lwide K) (sp_gmany K 8) (sp_goes K 8) (sp_lnumber K) { nx := fun _ H' => Q .non H', rt := Q } (start N_llaw vs) H := by
  obtain ⟨s, ns, rfl, hs, hl, q⟩ := h
  refine ⟨_, rfl, s, ns, rfl, hs, hl, fun p g H1 s1 np ng b1 => ?_⟩
  refine ⟨_, rfl, _, rfl, p, g, 7, rfl, b1, by decide, by decide, fun d H2 d0 d1 f2 b2 => ⟨1, d, rfl, rfl, p, g, 1 + d, rfl, b2, by omega, by omega, fun R row H3 f3 b3 nR eR asc lrow btn => ?_⟩⟩
  have lrow7 : 1 ≤ row.length ∧ row.length ≤ 7 := by omega
  have rne : row ≠ [] := fun z => by
    rw [z] at lrow7
    exact absurd lrow7.1 (by decide)
  have offR : Off p g R := b2.off nR
  -- the small tree
  refine ⟨_, rfl, _, rfl, _, rfl, p, g, R, row, rfl, b3, SqL.of eR, by omega, fun r l H4 pm f4 b4 nr er => ?_⟩
  have ll := pm.length_eq
  refine ⟨p, g, r, l, 3, rfl, b4, SqL.of er, b3.off nr, (fun z => by rw [z] at ll; simp at ll; omega), by omega, fun x hx => btn x (pm.mem_iff.mp hx), by decide, fun t v H5 lv wf dp tv f5 b5 => ?_⟩
  have ok : TreeOk t row := ⟨wf, by rw [lv]; exact pm, asc, by omega, by omega⟩
  have f35 : Fz [p, g] H3 H5 := f4.trans f5
  have eR5 := f35 _ _ eR (.inl offR)
  -- every lot, and what goes
  refine ⟨_, rfl, R, row, rfl, SqL.of eR5, by omega, fun x hx => (btn x hx).1, fun E H6 bs s6 nE eE eb rows => ?_⟩
  have lbs : bs.length ≤ 128 := by
    have e1 := congrArg List.length eb
    rw [List.length_map] at e1
    unfold every at e1
    rw [every_length] at e1
    rw [e1, List.length_singleton, Nat.one_mul]
    have := Nat.pow_le_pow_right (n := 2) (by decide) lrow7.2
    exact this
  refine ⟨_, rfl, _, rfl, _, rfl, t, v, E, bs, rfl, TrAt.fz (Fz.of (ex := []) s6) t v tv, ok.deep, SqL.of eE, rows, by omega, fun Wd H7 s7 nW eW => ⟨E, Wd, refs bs, _, rfl, SqL.of (s7 _ _ eE), SqL.of eW, fun D nD => lc_zip (by unfold refs; simp)
    (fun i H8 => Same H7 H8 ∧ H8 D = some (.lst (refs ((bs.take i).filter fun b => t.goes b.2)))) ⟨new_same _ nD, upd_same⟩ (fun i H8 _ hP => ⟨hP.1.seq (SqL.of (s7 _ _ eE)), hP.1.seq (SqL.of eW)⟩) ?_ ?_⟩⟩
  · rintro i x y T H8 hx hy ⟨s8, e8⟩ nT
    obtain ⟨b, hb, rfl⟩ := refs_get hx
    rw [List.getElem?_map, hb] at hy
    cases hy
    have DT := ne_of_none e8 nT
    refine ⟨T, _, rfl, SqT.inj upd_same, rfl, _, _, rfl, _, _, rfl, rfl, rfl, _, rfl, _, rfl, ?_⟩
    refine ite2 (fun c => ?_) (fun c => ?_)
    · refine ⟨_, rfl, _, (upd_ne DT).trans e8, ?_, same_grow nD (s8.trans (new_same _ nT)), ?_⟩
      · unfold refs
        rw [List.length_map]
        have := List.length_filter_le (fun (b : Addr × List Int) => t.goes b.2) (bs.take i)
        rw [List.length_take] at this
        exact small1000 (by omega)
      · rw [upd_same, take_more hb, List.filter_append]
        unfold refs
        rw [List.map_append]
        simp [c]
    · refine ⟨s8.trans (new_same _ nT), ?_⟩
      rw [upd_ne DT, e8, take_more hb, List.filter_append]
      simp [c]
  rintro H8 ⟨s8, e8⟩
  have e8' : H8 D = some (.lst (refs (bs.filter fun b => t.goes b.2))) := by
    rw [e8]
    unfold refs
    rw [List.length_map, List.take_length]
  have s68 := s7.trans s8
  refine ⟨D, bs.filter fun b => t.goes b.2, rfl, SqL.of e8', fun b hb => ?_, fun cs G pmc srt nG => ?_⟩
  · obtain ⟨hb1, hb2⟩ := List.mem_filter.mp hb
    refine ⟨(Fz.of (ex := []) s68).tup (rows b hb1), fun z => ?_⟩
    rw [z, goes_none t [] ok.wf fun x _ q => nomatch q] at hb2
    cases hb2
  have ecs : cs.map (·.2) = lots t row := by
    refine sorted_is ?_ (lex_pair srt) asc
    refine (pmc.map (·.2)).trans ?_
    have : (bs.filter fun b => t.goes b.2).map (·.2) = (every row).filter fun s => t.goes s := by
      rw [← eb, List.filter_map]
      rfl
    rw [this]
    exact lots_perm t row ok.wf
  have lcs : cs.length = (lots t row).length := by rw [← ecs, List.length_map]
  have rows8 : Rows K H8 cs := fun b hb => (rows.fz (Fz.of (ex := []) s68)) b (List.mem_filter.mp (pmc.mem_iff.mp hb)).1
  have lcs128 : cs.length ≤ 128 := by
    rw [pmc.length_eq]
    exact Nat.le_trans (List.length_filter_le _ _) lbs
  generalize hh : upd _ G _ = H9
  obtain ⟨s9, eG⟩ := made hh nG
  clear hh
  have eG : H9 G = some (.lst (refs cs)) := eG
  have s59 := s6.trans (s68.trans s9)
  have b9 := b5.same s59
  have rows9 := rows8.fz (Fz.of (ex := []) s9)
  have offG : Off p g G := (b5.same (s6.trans s68)).off nG
  have eR9 := s59 _ _ eR5
  have tv9 := TrAt.fz (Fz.of (ex := []) s59) t v tv
  have pos := ok.some_lot rne
  have few : t.leaves.length ≤ 1000 := by have := ok.len; omega
  have lrefs : (refs cs).length = (lots t row).length := by
    unfold refs
    rw [List.length_map, lcs]
  have at_G : ∀ (k : Nat) (l : List Int), (lots t row)[k]? = some l → ∃ c, (refs cs)[k]? = some (.ref c) ∧ (c, l) ∈ cs := by
    intro k l hk
    rw [← ecs, List.getElem?_map] at hk
    cases e : cs[k]? with
    | none =>
      rw [e] at hk
      cases hk
    | some b =>
      rw [e] at hk
      cases hk
      refine ⟨b.1, ?_, List.mem_of_getElem? e⟩
      unfold refs
      rw [List.getElem?_map, e]
      rfl
  -- numbers told
  have mn : ∃ m : Nat, (if ((refs cs).length : Int) < 5 then ((refs cs).length : Int) else 5) = (m : Int) ∧ m ≤ 5 ∧ m ≤ (lots t row).length := by
    rw [lrefs]
    by_cases c : ((lots t row).length : Int) < 5
    · rw [if_pos c]
      exact ⟨_, rfl, by omega, by omega⟩
    · rw [if_neg c]
      exact ⟨5, rfl, by omega, by omega⟩
  obtain ⟨m, em, hm5, hml⟩ := mn
  refine ⟨_, rfl, G, refs cs, rfl, .inl (SqL.of eG), 5, _, rfl, (m : Int), by rw [em], by omega, by omega, for_range
    (fun i σ H' => ∃ (x6 x7 x8 : Option V), σ = [some (.ref s), some (.ref p), some (.ref R), some v, some (.ref E), some (.ref G), x6, x7, x8, none, none, none, none, none] ∧ Fz [p, g] H9 H' ∧ Bag H' p g) ⟨none, none, none, rfl, Fz.refl, b9⟩ ?_ ?_⟩
  · rintro i σ H10 hi ⟨x6, x7, x8, rfl, f10, b10⟩
    rw [show (0 : Int) + (i : Int) = (i : Int) from Int.zero_add _]
    have him : i < m := by
      rw [Int.toNat_natCast] at hi
      exact hi
    have eG10 := f10 _ _ eG (.inl offG)
    -- with the number known
    have cont : ∀ (k : Nat) (H11 : Hp), k < (lots t row).length → Fz [p, g] H9 H11 → Bag H11 p g →
        (tSeq (tAsg (tLst (tCons (tKn (sp_ltold K) (tCons (tVar 3) (tCons (tVar 7) (tCons (tOp (rI (fun _ j => j ≠ 0) fun i j => .int (i.fmod j)) (tCB (fun xs H Q => (∃ i, xs = [.int i] ∧ Q (.int i) H) ∨ ∃ k, xs = [.bl k] ∧ Q (.int (if k then 1 else 0)) H) (tCons (tVar 6) tNil)) (tC (.int 2))) tNil)))) (tCons (tKn (sp_ltold K) (tCons (tVar 3) (tCons (tOp (rIxL K) (tVar 5) (tVar 7)) (tCons (tC (.int 2)) tNil)))) tNil))) (gName 8))
    (tIfS (tTest (tOp rNe (tCB (rRepr K) (tCons (tVar 8) tNil)) (tCB (rRepr K) (tCons (tLst (tCons (tLst (tCons (tC (.str "told")) (tCons (tOp (rIxL K) (tVar 5) (tVar 7)) tNil))) (tCons (tLst (tCons (tC (.str "told")) (tCons (tVar 7) tNil))) tNil))) tNil)))) (tRet (tC (.bl false))) tNext))
        { nx := fun σ H' => ∃ (x6 x7 x8 : Option V), σ = [some (.ref s), some (.ref p), some (.ref R), some v, some (.ref E), some (.ref G), x6, x7, x8, none, none, none, none, none] ∧ Fz [p, g] H9 H' ∧ Bag H' p g, rt := Q }
        [some (.ref s), some (.ref p), some (.ref R), some v, some (.ref E), some (.ref G), some (.int i), some (.int k), x8, none, none, none, none, none] H11 := by
      intro k H11 hk f11 b11
      obtain ⟨l', hl'⟩ : ∃ l', (lots t row)[k]? = some l' := ⟨_, List.getElem?_eq_getElem hk⟩
      have lo := lots_ok ok (List.mem_of_getElem? hl')
      obtain ⟨c, hc, hcm⟩ := at_G k l' hl'
      have eG11 := f11 _ _ eG (.inl offG)
      have hc11 : SqT K H11 c (l'.map V.int) := f11.tup (rows9 _ hcm)
      refine ⟨_, rfl, _, rfl, _, rfl, .inl ⟨_, rfl, _, 2, rfl, rfl, (by show (_ : Int) ≠ 0; decide), ?_⟩⟩
      dsimp only [tNil]
      refine told_at (TrAt.fz f11 t v tv9) ok hl' (Int.fmod_nonneg_of_pos _ (by decide)) (Int.fmod_lt_of_pos _ (by decide)) fun r1 c1 H12 s12 nr1 hc1 er1 => ?_
      have eG12 := s12 _ _ eG11
      have hc12 := (Fz.of (ex := []) s12).tup hc11
      refine ⟨_, rfl, _, rfl, _, rfl, G, refs cs, (k : Int), .ref c, rfl, rfl, SqL.of eG12, atI_nat hc, ?_⟩
      dsimp only [tNil, tCons, tC]
      refine told_num (way := 2) (TrAt.fz (f11.trans (Fz.of s12)) t v tv9) ok hl' hc12 (by decide) (by decide) fun r2 H13 s13 nr2 er2 => ?_
      refine ⟨(by show 2 ≤ sizeLine; decide), fun An nAn => ?_⟩
      generalize hh : upd _ An _ = H14
      obtain ⟨s14, eAn⟩ := made hh nAn
      clear hh
      have s1114 := s12.trans (s13.trans s14)
      have d1 : Dp K H14 (.ref An) (dBoth l' k) := dp_both eAn (dp_told (s14 _ _ (s13 _ _ er1)) ((Fz.of (ex := []) (s13.trans s14)).tup hc1)) (dp_num (s14 _ _ er2))
      have sh : Shows (dBoth l' k) := shows_both (fun x hx => ok.btn x (lo.sub x hx)) (lo.len ok) (by have := ok.few24 (by omega); omega)
      refine ⟨_, rfl, ?_⟩
      dsimp only [tNil]
      refine repr_is d1 sh ?_
      have eG14 := s1114 _ _ eG11
      refine ⟨_, rfl, _, rfl, G, refs cs, (k : Int), .ref c, rfl, rfl, SqL.of eG14, atI_nat hc, (by show 2 ≤ sizeLine; decide), fun A1 nA1 => ?_⟩
      generalize hh : upd _ A1 _ = H15
      obtain ⟨s15, eA1⟩ := made hh nA1
      clear hh
      refine ⟨_, rfl, (by show 2 ≤ sizeLine; decide), fun A2 nA2 => ?_⟩
      generalize hh : upd _ A2 _ = H16
      obtain ⟨s16, eA2⟩ := made hh nA2
      clear hh
      refine ⟨(by show 2 ≤ sizeLine; decide), fun A3 nA3 => ?_⟩
      generalize hh : upd _ A3 _ = H17
      obtain ⟨s17, eA3⟩ := made hh nA3
      clear hh
      have s1117 := s1114.trans (s15.trans (s16.trans s17))
      have d2 : Dp K H17 (.ref A3) (dBoth l' k) := dp_both eA3 (dp_told (s17 _ _ (s16 _ _ eA1)) ((Fz.of (ex := []) s1117).tup hc11)) (dp_num (s17 _ _ eA2))
      dsimp only [tNil]
      refine repr_is d2 sh ?_
      refine ⟨rfl, _, rfl, ?_⟩
      rw [decide_eq_true rfl]
      exact iteF ⟨_, _, _, rfl, f11.trans (Fz.of s1117), b11.same s1117⟩
    refine ⟨_, rfl, G, refs cs, rfl, .inl (SqL.of eG10), _, 6, rfl, rfl, _, rfl, ?_⟩
    refine ite2 (fun c => ?_) (fun c => ?_)
    · exact ⟨_, rfl, cont i H10 (by omega) f10 b10⟩
    · refine ⟨_, rfl, _, rfl, G, refs cs, rfl, .inl (SqL.of eG10), p, g, _, rfl, b10, by omega, by omega, fun d' H11 h0 h1 f11 b11 => ?_⟩
      obtain ⟨k, rfl⟩ := Int.eq_ofNat_of_zero_le h0
      exact cont k H11 (by omega) (f10.trans f11) b11
  rintro σ H10 ⟨x6, x7, x8, rfl, f10, b10⟩
  have eG10 := f10 _ _ eG (.inl offG)
  have eR10 := f10 _ _ eR9 (.inl offR)
  have tv10 := TrAt.fz f10 t v tv9
  -- counted
  refine ⟨_, rfl, _, rfl, _, rfl, _, rfl, p, g, t, row, v, R, .ref G, rfl, b10, tv10, ok, eR10, offR, by omega, rne, .inr ⟨G, cs, rfl, SqL.of eG10, offG, rows9.fz f10, ecs, by omega⟩, fun H11 f11 b11 => ⟨_, rfl, iteF ?_⟩⟩
  have f911 := f10.trans f11
  -- odd values
  have refne : refs cs ≠ [] := fun z => by
    rw [z] at lrefs
    simp at lrefs
    omega
  refine ⟨_, rfl, _, rfl, _, rfl, _, rfl, _, rfl, p, g, G, refs cs, rfl, b11, SqL.of (f911 _ _ eG (.inl offG)), offG, refne, by omega, fun i vv H12 hv f12 b12 => ?_⟩
  obtain ⟨b, hb, rfl⟩ := refs_get hv
  have f912 := f911.trans f12
  have hlot : b.2 ∈ lots t row := by
    rw [← ecs]
    exact List.mem_map.mpr ⟨b, List.mem_of_getElem? hb, rfl⟩
  refine ⟨_, rfl, G, refs cs, rfl, .inl (SqL.of (f912 _ _ eG (.inl offG))), p, g, t, row, v, R, b.1, b.2, ?_, b12, TrAt.fz f912 t v tv9, ok, f912 _ _ eR9 (.inl offR), offR, by omega, f912.tup (rows9 b (List.mem_of_getElem? hb)), lots_ok ok hlot, fun H13 f13 b13 => ⟨_, rfl, iteF ?_⟩⟩
  · rw [lrefs]
  -- the widest
  refine ⟨_, rfl, p, g, 10, rfl, b13, by decide, by decide, fun d' H14 _ _ f14 b14 => ⟨rfl, _, rfl, ?_⟩⟩
  refine ite2 (fun _ => ⟨_, rfl, p, g, rfl, b14, fun H' _ _ => q H'⟩) (fun _ => ?_)
  clear f13 f912 f911 f10 eG10 eR10 tv10 hlot hb refne rows9 rows8 eG ecs at_G lrefs lcs lcs128 srt pmc tv9 tv eR9 eR5 e8' e8
  -- the great tree
  have buttons2 : ∀ (M : Int) (H15 : Hp), 8 ≤ M → M ≤ 17 → Bag H15 p g → sp_lbuttons K [.ref p, .int M] H15 (fun x H1 => gName 2 x [some (.ref s), some (.ref p), some (.ref R), some v, some (.ref E), some (.ref G), x6, x7, x8, none, none, none, none, none] H1 (tSeq (tAsg (tKn (sp_ltree K 6) (tCons (tVar 1) (tCons (tKn (sp_lmixed K) (tCons (tVar 1) (tCons (tVar 2) tNil))) (tCons (tC (.int 4)) tNil)))) (gName 3))
    (tSeq (tPar 9 10 (tCons (tOp (rIxT K) (tKn (sp_gmany K 8) (tCons (tVar 3) (tCons (tTup tNil) (tCons (tTup tNil) tNil)))) (tC (.int 0))) (tCons (tTup tNil) tNil)))
    (tSeq (tFor (iList K (tSl (rSlL K) (tLst (tCons (tKn (sp_ldraw K) (tCons (tVar 1) (tCons (tVar 9) tNil))) (tCons (tOp (rI0 fun i j => .int (i - j)) (tVar 9) (tC (.int 1))) tNil))) tNoPart (tPart (tIf (tTest (tOp (rI0 fun i j => .bl (decide (i < j))) (tCB (fun xs H Q => ∃ p ys, xs = [.ref p] ∧ (SqL K H p ys ∨ SqT K H p ys) ∧ Q (.int ys.length) H) (tCons (tVar 2) tNil)) (tC (.int 11)))) (tC (.int 2)) (tC (.int 1)))))) (gName 7) (tSeq (tAsg (tKn (sp_ltold K) (tCons (tVar 3) (tCons (tVar 7) (tCons (tC (.int 1)) tNil)))) (gName 11))
    (tSeq (tIfS (tOr (tTest (tOp rNe (tOp (rIxL K) (tVar 11) (tC (.int 0))) (tC (.str "told")))) (tTest (tOp rNe (tCB (rRepr K) (tCons (tKn (sp_ltold K) (tCons (tVar 3) (tCons (tOp (rIxL K) (tVar 11) (tC (.int 1))) (tCons (tC (.int 3)) tNil)))) tNil)) (tCB (rRepr K) (tCons (tLst (tCons (tC (.str "told")) (tCons (tVar 7) tNil))) tNil))))) (tRet (tC (.bl false))) tNext)
    (tSeq (tAsg (tOp (rIxL K) (tVar 11) (tC (.int 1))) (gName 10))
    (tSeq (tIfS (tOr (tNot (tB (tCB (rIsi K) (tCons (tVar 10) (tCons (tC (.ty "tuple")) tNil))))) (tTest (tOp (rNeD K) (tLc (iTup K (tVar 10)) (gName 13) (tOr (tTest (tOp (rIn K true) (tVar 13) (tVar 2))) (tB (tCB (rIsi K) (tCons (tVar 13) (tCons (tC (.ty "bool")) tNil))))) (tC (.int 1)) [13]) (tLst tNil)))) (tRet (tC (.bl false))) tNext)
    (tIfS (tOr (tNot (tB (tKn (sp_goes K 8) (tCons (tVar 3) (tCons (tVar 10) tNil))))) (tTest (tOp rNe (tKn (sp_lnumber K) (tCons (tVar 3) (tCons (tVar 10) tNil))) (tVar 7)))) (tRet (tC (.bl false))) tNext))))))
    (tRet (tAndV (tKn (sp_lcounted K) (tCons (tVar 1) (tCons (tVar 3) (tCons (tVar 2) (tCons (tC .non) tNil))))) (tKn (sp_lodd K) (tCons (tVar 1) (tCons (tVar 3) (tCons (tVar 2) (tCons (tVar 10) (tCons (tVar 9) tNil))))))))))
      { nx := fun _ H' => Q .non H', rt := Q })) E0 := by
    intro M H15 hM1 hM2 b15
    refine ⟨p, g, M, rfl, b15, by omega, by omega, fun R row H16 f16 b16 nR eR asc lrow btn => ?_⟩
    have offR : Off p g R := b15.off nR
    have lrow' : 8 ≤ row.length ∧ row.length ≤ 17 := by omega
    have rne : row ≠ [] := fun z => by
      rw [z] at lrow'
      exact absurd lrow'.1 (by decide)
    refine ⟨_, rfl, _, rfl, _, rfl, p, g, R, row, rfl, b16, SqL.of eR, by omega, fun r l H17 pm f17 b17 nr er => ?_⟩
    have ll := pm.length_eq
    refine ⟨p, g, r, l, 4, rfl, b17, SqL.of er, b16.off nr, (fun z => by rw [z] at ll; simp at ll; omega), by omega, fun x hx => btn x (pm.mem_iff.mp hx), by decide, fun t v H18 lv wf dp tv f18 b18 => ?_⟩
    have ok : TreeOk t row := ⟨wf, by rw [lv]; exact pm, asc, by omega, by omega⟩
    have eR18 := (f17.trans f18) _ _ eR (.inl offR)
    have pos := ok.some_lot rne
    have big := ok.few24 (by omega)
    have few : t.leaves.length ≤ 1000 := by have := ok.len; omega
    refine ⟨_, rfl, (by show 0 ≤ sizeLine; decide), fun A nA => ?_⟩
    generalize hh : upd _ A _ = H19
    obtain ⟨s19, eA⟩ := made hh nA
    clear hh
    refine ⟨(by show 0 ≤ sizeLine; decide), fun B nB => ?_⟩
    generalize hh : upd _ B _ = H20
    obtain ⟨s20, eB⟩ := made hh nB
    clear hh
    refine ⟨t, v, A, B, [], [], rfl, TrAt.fz (Fz.of (ex := []) (s19.trans s20)) t v tv, .inr (SqT.inj (s20 _ _ eA)), .inr (SqT.inj eB), ok.deep, ok.wf, ok.leaves, ok.len, fun Gs H21 s21 nGs eGs => ?_⟩
    rw [ok.many] at eGs
    refine ⟨Gs, _, 0, _, rfl, rfl, SqT.inj eGs, rfl, (by show 0 ≤ sizeLine; decide), fun S nS => ?_⟩
    generalize hh : upd _ S _ = H22
    obtain ⟨s22, eS⟩ := made hh nS
    clear hh
    have s1822 := s19.trans (s20.trans (s21.trans s22))
    have b22 := b18.same s1822
    have eR22 := s1822 _ _ eR18
    have tv22 := TrAt.fz (Fz.of (ex := []) s1822) t v tv
    refine ⟨_, _, rfl, ?_⟩
    have hm : 0 < ((lots t row).length : Int) := by omega
    refine ⟨_, rfl, _, rfl, p, g, _, rfl, b22, hm, by omega, fun u H23 u0 u1 f23 b23 => ⟨_, rfl, _, 1, rfl, rfl, (by show 2 ≤ sizeLine; decide), fun L nL => ?_⟩⟩
    generalize hh : upd _ L _ = H24
    obtain ⟨s24, eL⟩ := made hh nL
    clear hh
    have eL : H24 L = some (.lst (([u, ((lots t row).length : Int) - 1] : List Int).map V.int)) := eL
    have f2224 : Fz [p, g] H22 H24 := f23.trans (Fz.of s24)
    have eR24 := f2224 _ _ eR22 (.inl offR)
    refine ⟨_, rfl, R, _, rfl, .inl (SqL.of eR24), _, 11, rfl, rfl, _, rfl, ?_⟩
    -- the loop and what comes behind it
    have loop : ∀ N : Int, 1 ≤ N → N ≤ 2 → ∃ i, V.int N = V.int i ∧ rSlL K (.ref L) none (some i) H24 (fun x H1 => ∃ a, x = .ref a ∧ (∃ xs, SqL K H1 a xs) ∧
        ∃ W : Nat → Nat → L2.St → Hp → Prop, (∃ m, W 0 m [some (.ref s), some (.ref p), some (.ref R), some v, some (.ref E), some (.ref G), x6, x7, x8, some (.int (lots t row).length), some (.ref S), none, none, none] H1) ∧ ∀ i m σ H, W i m σ H →
      ((Itl K a).stop i H ∧ (tRet (tAndV (tKn (sp_lcounted K) (tCons (tVar 1) (tCons (tVar 3) (tCons (tVar 2) (tCons (tC .non) tNil))))) (tKn (sp_lodd K) (tCons (tVar 1) (tCons (tVar 3) (tCons (tVar 2) (tCons (tVar 10) (tCons (tVar 9) tNil)))))))) { nx := fun _ H' => Q .non H', rt := Q } σ H) ∨
      ((Itl K a).go i H ∧ ∃ N : L2.St → Hp → Prop, (∀ σ' H', N σ' H' → ∃ m', m' < m ∧ W (i + 1) m' σ' H') ∧ ∀ x H', (Itl K a).yld i H x H' → gName 7 x σ H' fun σ2 H2 => (tSeq (tAsg (tKn (sp_ltold K) (tCons (tVar 3) (tCons (tVar 7) (tCons (tC (.int 1)) tNil)))) (gName 11))
    (tSeq (tIfS (tOr (tTest (tOp rNe (tOp (rIxL K) (tVar 11) (tC (.int 0))) (tC (.str "told")))) (tTest (tOp rNe (tCB (rRepr K) (tCons (tKn (sp_ltold K) (tCons (tVar 3) (tCons (tOp (rIxL K) (tVar 11) (tC (.int 1))) (tCons (tC (.int 3)) tNil)))) tNil)) (tCB (rRepr K) (tCons (tLst (tCons (tC (.str "told")) (tCons (tVar 7) tNil))) tNil))))) (tRet (tC (.bl false))) tNext)
    (tSeq (tAsg (tOp (rIxL K) (tVar 11) (tC (.int 1))) (gName 10))
    (tSeq (tIfS (tOr (tNot (tB (tCB (rIsi K) (tCons (tVar 10) (tCons (tC (.ty "tuple")) tNil))))) (tTest (tOp (rNeD K) (tLc (iTup K (tVar 10)) (gName 13) (tOr (tTest (tOp (rIn K true) (tVar 13) (tVar 2))) (tB (tCB (rIsi K) (tCons (tVar 13) (tCons (tC (.ty "bool")) tNil))))) (tC (.int 1)) [13]) (tLst tNil)))) (tRet (tC (.bl false))) tNext)
    (tIfS (tOr (tNot (tB (tKn (sp_goes K 8) (tCons (tVar 3) (tCons (tVar 10) tNil))))) (tTest (tOp rNe (tKn (sp_lnumber K) (tCons (tVar 3) (tCons (tVar 10) tNil))) (tVar 7)))) (tRet (tC (.bl false))) tNext)))))
      { nx := N, rt := Q, ct := N, bk := (tRet (tAndV (tKn (sp_lcounted K) (tCons (tVar 1) (tCons (tVar 3) (tCons (tVar 2) (tCons (tC .non) tNil))))) (tKn (sp_lodd K) (tCons (tVar 1) (tCons (tVar 3) (tCons (tVar 2) (tCons (tVar 10) (tCons (tVar 9) tNil)))))))) { nx := fun _ H' => Q .non H', rt := Q } } σ2 H2)) := by
      intro N hN1 hN2
      refine ⟨N, rfl, L, _, rfl, SqL.of eL, fun L2 nL2 => ?_⟩
      rw [cut_to (by omega), ← List.map_take]
      generalize hh : upd _ L2 _ = H25
      obtain ⟨s25, eL2⟩ := made hh nL2
      clear hh
      have ksb : ∀ z ∈ ([u, ((lots t row).length : Int) - 1] : List Int).take N.toNat, ∃ k : Nat, z = (k : Int) ∧ k < (lots t row).length := by
        intro z hz
        have := List.mem_of_mem_take hz
        simp only [List.mem_cons, List.not_mem_nil, or_false] at this
        rcases this with e | e <;> exact ⟨z.toNat, by omega, by omega⟩
      have ksl : 0 < (([u, ((lots t row).length : Int) - 1] : List Int).take N.toNat).length := by
        rw [List.length_take]
        simp only [List.length_cons, List.length_nil]
        omega
      revert eL2 ksb ksl
      generalize ([u, ((lots t row).length : Int) - 1] : List Int).take N.toNat = ks
      intro eL2 ksb ksl
      have f2225 : Fz [p, g] H22 H25 := f2224.trans (Fz.of s25)
      have b24 := b23.same s24
      have b25 := b24.same s25
      have offL2 : Off p g L2 := b24.off nL2
      have eR25 := f2225 _ _ eR22 (.inl offR)
      have tv25 := TrAt.fz f2225 t v tv22
      refine ⟨L2, rfl, ⟨_, SqL.of eL2⟩, for_list (K := K) (a := L2) (xs := ks.map V.int) (D := { nx := (tRet (tAndV (tKn (sp_lcounted K) (tCons (tVar 1) (tCons (tVar 3) (tCons (tVar 2) (tCons (tC .non) tNil))))) (tKn (sp_lodd K) (tCons (tVar 1) (tCons (tVar 3) (tCons (tVar 2) (tCons (tVar 10) (tCons (tVar 9) tNil)))))))) { nx := fun _ H' => Q .non H', rt := Q }, rt := Q })
        (fun i σ H' => ∃ (x7 x10 x11 : Option V), σ = [some (.ref s), some (.ref p), some (.ref R), some v, some (.ref E), some (.ref G), x6, x7, x8, some (.int (lots t row).length), x10, x11, none, none] ∧ Fz [p, g] H25 H' ∧ Bag H' p g ∧ (0 < i → ∃ c l', x10 = some (.ref c) ∧ SqT K H' c (List.map V.int l') ∧ LotOk t row l'))
        ⟨x7, _, none, rfl, Fz.refl, b25, fun z => absurd z (Nat.lt_irrefl _)⟩ (fun i σ H' _ hP => ?_) ?_ ?_⟩
      · obtain ⟨_, _, _, _, f, _⟩ := hP
        exact f.lst offL2 (SqL.of eL2)
      · rintro i z σ H26 hz ⟨x7, x10, x11, rfl, f26, b26, _⟩
        obtain ⟨zk, hzk, rfl⟩ := ints_get hz
        obtain ⟨k, rfl, hk⟩ := ksb zk (List.mem_of_getElem? hzk)
        obtain ⟨l', hl'⟩ : ∃ l', (lots t row)[k]? = some l' := ⟨_, List.getElem?_eq_getElem hk⟩
        have lo := lots_ok ok (List.mem_of_getElem? hl')
        have sh := shows_num (k := k) (by omega)
        refine ⟨_, rfl, _, rfl, ?_⟩
        dsimp only [tNil, tCons, tC]
        refine told_at (way := 1) (TrAt.fz f26 t v tv25) ok hl' (by decide) (by decide) fun r1 c1 H27 s27 nr1 hc1 er1 => ?_
        refine ⟨_, rfl, r1, _, 0, .str "told", rfl, rfl, SqL.of er1, rfl, rfl, _, rfl, iteF ?_⟩
        refine ⟨_, rfl, _, rfl, r1, _, 1, .ref c1, rfl, rfl, SqL.of er1, rfl, ?_⟩
        dsimp only [tNil, tCons, tC]
        refine told_num (way := 3) (TrAt.fz (f26.trans (Fz.of s27)) t v tv25) ok hl' hc1 (by decide) (by decide) fun r2 H28 s28 nr2 er2 => ?_
        refine repr_is (dp_num er2) sh ?_
        refine ⟨_, rfl, (by show 2 ≤ sizeLine; decide), fun A1 nA1 => ?_⟩
        generalize hh : upd _ A1 _ = H29
        obtain ⟨s29, eA1⟩ := made hh nA1
        clear hh
        dsimp only [tNil, tCons, tC]
        refine repr_is (dp_num eA1) sh ?_
        refine ⟨rfl, _, rfl, ?_⟩
        rw [decide_eq_true rfl]
        refine iteF ?_
        have s2729 := s28.trans s29
        have er29 := s2729 _ _ er1
        have hc29 := (Fz.of (ex := []) s2729).tup hc1
        refine ⟨_, rfl, r1, _, 1, .ref c1, rfl, rfl, SqL.of er29, rfl, ?_⟩
        have any29 := any_tup hc29
        refine ⟨_, rfl, .ref c1, .ty "tuple", _, _, _, rfl, .ty "tuple", any29.ty, isi_ans any29.kn (by simp), _, rfl, iteF ?_⟩
        have f29 : Fz [p, g] H25 H29 := f26.trans (Fz.of (s27.trans s2729))
        have eR29 := f29 _ _ eR25 (.inl offR)
        refine ⟨_, rfl, c1, rfl, ⟨_, hc29⟩, fun D nD => lcfil (walk_tup (K := K) (a := c1) (xs := l'.map V.int)) (fun H6 s6 => (Fz.of (ex := []) s6).tup hc29) (by have := lo.len ok; rw [List.length_map]; omega) (fun _ => rfl)
          (fun v => match v with | .int n => !decide (n ∈ row) | _ => false) (fun _ => .int 1) (fun v H6 Q6 hv s6 q6 => ?_) (fun v H6 Q6 _ _ _ q6 => q6) nD fun H30 s30 eD => ?_⟩
        · obtain ⟨n, hn, rfl⟩ := List.mem_map.mp hv
          refine ⟨_, rfl, _, rfl, R, _, rfl, .inl (SqL.of (s6 _ _ eR29)), rfl, flat_ints row, _, rfl, ?_⟩
          rw [if_pos rfl, inV_ints]
          have q7 := q6 H6 (Same.refl H6)
          simp only [lo.sub n hn, decide_true, Bool.not_true] at q7 ⊢
          refine iteF ?_
          exact ⟨_, rfl, .int n, .ty "bool", _, _, _, rfl, .ty "bool", (any_int (K := K) (H := H6) n).ty, isi_ans (any_int (K := K) (H := H6) n).kn (by simp), _, rfl, q7⟩
        have e0 : (l'.filter fun n => !decide (n ∈ row)) = [] := by
          rw [List.filter_eq_nil_iff]
          intro n hn
          simp [lo.sub n hn]
        have eD : H30 D = some (.lst []) := by
          rw [eD, filter_ints]
          show some (HO.lst (((l'.filter fun n => !decide (n ∈ row)).map V.int).map fun _ => V.int 1)) = _
          rw [e0]
          rfl
        refine ⟨(by show 0 ≤ sizeLine; decide), fun zz nzz => ?_⟩
        generalize hh : upd _ zz _ = H31
        obtain ⟨s31, ezz⟩ := made hh nzz
        clear hh
        refine ne_nil (ns := []) (s31 _ _ eD) ezz ?_
        refine ⟨_, rfl, iteF ?_⟩
        have s2931 := s30.trans s31
        have hc31 := (Fz.of (ex := []) s2931).tup hc29
        have f31 := f29.trans (Fz.of s2931)
        have b31 := ((b26.same s27).same s2729).same s2931
        refine ⟨_, rfl, _, rfl, t, v, c1, l', rfl, TrAt.fz f31 t v tv25, .inr hc31, ok.deep, ok.wf, few, fun H32 s32 => ⟨_, rfl, ?_⟩⟩
        rw [lo.go]
        refine iteF ?_
        have hc32 := (Fz.of (ex := []) s32).tup hc31
        refine ⟨_, rfl, _, rfl, t, row, v, c1, l', k, rfl, TrAt.fz (f31.trans (Fz.of s32)) t v tv25, ok, hc32, lo, hl', fun H33 s33 => ⟨_, rfl, rfl, _, rfl, ?_⟩⟩
        rw [decide_eq_true rfl]
        refine iteF ⟨_, _, _, rfl, f31.trans (Fz.of (s32.trans s33)), b31.same (s32.trans s33), fun _ => ⟨c1, l', rfl, (Fz.of (ex := []) s33).tup hc32, lo⟩⟩
      · rintro σ H26 ⟨x7, x10, x11, rfl, f26, b26, good⟩
        obtain ⟨c, l', rfl, hc, lo⟩ := good (by rw [List.length_map]; exact ksl)
        refine ⟨_, rfl, _, rfl, _, rfl, p, g, t, row, v, R, .non, rfl, b26, TrAt.fz f26 t v tv25, ok, f26 _ _ eR25 (.inl offR), offR, by omega, rne, .inl rfl, fun H27 f27 b27 => ⟨_, rfl, iteT ?_⟩⟩
        have f2527 := f26.trans f27
        exact ⟨_, rfl, _, rfl, _, rfl, _, rfl, _, rfl, p, g, t, row, v, R, c, l', rfl, b27, TrAt.fz f2527 t v tv25, ok, f2527 _ _ eR25 (.inl offR), offR, by omega, f27.tup hc, lo, fun H28 _ _ => q H28⟩
    refine ite2 (fun _ => ?_) (fun _ => ?_)
    · exact loop 2 (by decide) (by decide)
    · exact loop 1 (by decide) (by decide)
  refine ⟨_, rfl, _, rfl, p, g, 8, rfl, b14, by decide, by decide, fun d2 H15 h0 h1 f15 b15 => ⟨rfl, _, rfl, ?_⟩⟩
  refine ite2 (fun _ => ?_) (fun _ => ?_)
  · exact buttons2 17 H15 (by decide) (by decide) b15
  · refine ⟨_, rfl, p, g, 5, rfl, b15, by decide, by decide, fun d3 H16 h2 h3 f16 b16 => ⟨8, d3, rfl, rfl, ?_⟩⟩
    exact buttons2 (8 + d3) H16 (by omega) (by omega) b16
end K19

namespace K19
open PySem PySem.Spec PyProof.Rows L2

/-! ### the defs, each known by its body -/
def Has (K : PySem.W.Frag) (mg : Str → Option Value) (x : Str) (st : Stmt) : Prop := ∃ f fd, Fun K x x st f fd ∧ mg x = some (.ref f)
theorem has_mk {K : PySem.W.Frag} {h : Heap} {mg : Str → Option Value} {x : Str} {st : Stmt} {f : Addr} {oc : Value} {od an : Option Addr} {osl : Array (Option Value)} {kV doc pm cdv ct : Value} (X : K.In h) (G : h.Ns mainGlobals mg) (a : PySem.W.nsIn K mainGlobals x = some (some (.ref f)))
    (l : K.lookup f = some ⟨oc, od, .func (PySem.W.fnOf x x (defArgs st) (defBody st) (defScope st) .none kV doc pm an cdv ct), osl⟩) (c : PySem.W.codeIn K cdv x = true) (k : PySem.W.keepIn K (.ref f) = true) : Has K mg x st := ⟨f, _, fun_mk l c k, PySem.W.mg_of X G a⟩
theorem kn_void {P : Program} {w : World} {K : PySem.W.Frag} {mg : Str → Option Value} {base : Heap} {CX : CXT} {k : Nat} {x : Str} {st : Stmt} {f : Addr} {fd : FuncData} {ps : List Str} {sp : Sp} (F : Fun K x x st f fd) (m : mg x = some (.ref f)) (b : Binds K fd ps []) (no : ∀ vs H Q E, sp vs H Q E → False) :
    Kn P w K mg base CX k x ps sp := ⟨⟨f, fd, ⟨fun vs H Q E h => (no vs H Q E h).elim, fun A outer s H args us vs Q E _ _ _ _ h => (no vs H Q E h).elim⟩, m, F.kp, b⟩⟩
theorem kn_ofX {P : Program} {w : World} {K : PySem.W.Frag} {mg : Str → Option Value} {base : Heap} {k : Nat} {x : Str} {st : Stmt} {f : Addr} {fd : FuncData} {N ps : List Str} {sp : Sp} (F : Fun K x x st f fd) (m : mg x = some (.ref f)) (b : Binds K fd ps [])
    (bB : ∀ (s : Shared) (ws : List Value), ws.length = ps.length → BindsTo s fd ⟨[], ps.reverse.zip ws⟩ (ps.zip ws.reverse)) (S : FnScope N ps (defScope st)) (len : ∀ vs H Q E, sp vs H Q E → vs.length = ps.length) (t : XK → TS)
    (walk : ∀ (cdv : Value) (A : Around) (outer : List Env) (s : Shared) (H : Hp) (E : XK), Room k (A.deeper (envOfC x (defScope st) s.heap.objs.size f cdv)) → PSs (cxOf (L2.CX P w) P w K mg base N x (defScope st) f cdv A outer s H E) (defBody st) (t E))
    (law : ∀ (vs : List V) (H : Hp) (Q : VK) (E : XK), sp vs H Q E → t E { nx := fun _ H' => Q .non H', rt := Q } (start N vs) H) :
    Kn P w K mg base (L2.CX P w) (k + 1) x ps sp ∧ KnB P w K mg base (L2.CX P w) (k + 1) x ps sp := by
  have G := F.okX S len fun cdv A outer s H vs Q E hr h => ⟨t E, walk cdv A outer s H E hr, law vs H Q E h⟩
  exact ⟨⟨f, fd, G, m, F.kp, b⟩, ⟨f, fd, G, m, F.kp, bB⟩⟩
theorem knB_of {P : Program} {w : World} {K : PySem.W.Frag} {mg : Str → Option Value} {base : Heap} {k : Nat} {x : Str} {st : Stmt} {f : Addr} {fd : FuncData} {N ps : List Str} {sp : Sp} (F : Fun K x x st f fd) (m : mg x = some (.ref f)) (b : Binds K fd ps [])
    (bB : ∀ (s : Shared) (ws : List Value), ws.length = ps.length → BindsTo s fd ⟨[], ps.reverse.zip ws⟩ (ps.zip ws.reverse)) (S : FnScope N ps (defScope st)) (len : ∀ vs H Q E, sp vs H Q E → vs.length = ps.length) (t : TS)
    (walk : ∀ (cdv : Value) (A : Around) (outer : List Env) (s : Shared) (H : Hp) (E : XK), Room k (A.deeper (envOfC x (defScope st) s.heap.objs.size f cdv)) → PSs (cxOf CX0 P w K mg base N x (defScope st) f cdv A outer s H E).nox (defBody st) t)
    (law : ∀ (vs : List V) (H : Hp) (Q : VK) (E : XK), sp vs H Q E → t { nx := fun _ H' => Q .non H', rt := Q } (start N vs) H) :
    Kn P w K mg base CX0 (k + 1) x ps sp ∧ KnB P w K mg base CX0 (k + 1) x ps sp := by
  have G := F.ok S len fun cdv A outer s H vs Q E hr h => ⟨t, walk cdv A outer s H E hr, law vs H Q E h⟩
  exact ⟨⟨f, fd, G, m, F.kp, b⟩, ⟨f, fd, G, m, F.kp, bB⟩⟩
/-- the binding by keywords alone, two and three -/
theorem back2 {K : PySem.W.Frag} {x qual a b : Str} {st : Stmt} {f : Addr} {fd : FuncData} (F : Fun K x qual st f fd) (h : ∀ (kV doc pm : Value) (an : Option Addr) (cdv ct u v : Value), bindArgs (PySem.W.fnOf x qual (defArgs st) (defBody st) (defScope st) .none kV doc pm an cdv ct) ⟨[], [(b, u), (a, v)]⟩ = pure [(a, v), (b, u)]) :
    ∀ (s : Shared) (ws : List Value), ws.length = [a, b].length → BindsTo s fd ⟨[], [a, b].reverse.zip ws⟩ ([a, b].zip ws.reverse) := by
  obtain ⟨oc, od, kV, doc, pm, an, cdv, ct, osl, rfl, lk, hcd⟩ := F.ex
  intro s ws hl
  match ws, hl with
  | [u, v], _ => exact .of_eq (h kV doc pm an cdv ct u v)
theorem back3 {K : PySem.W.Frag} {x qual a b c : Str} {st : Stmt} {f : Addr} {fd : FuncData} (F : Fun K x qual st f fd) (h : ∀ (kV doc pm : Value) (an : Option Addr) (cdv ct u v z : Value), bindArgs (PySem.W.fnOf x qual (defArgs st) (defBody st) (defScope st) .none kV doc pm an cdv ct) ⟨[], [(c, u), (b, v), (a, z)]⟩ = pure [(a, z), (b, v), (c, u)]) :
    ∀ (s : Shared) (ws : List Value), ws.length = [a, b, c].length → BindsTo s fd ⟨[], [a, b, c].reverse.zip ws⟩ ([a, b, c].zip ws.reverse) := by
  obtain ⟨oc, od, kV, doc, pm, an, cdv, ct, osl, rfl, lk, hcd⟩ := F.ex
  intro s ws hl
  match ws, hl with
  | [u, v, z], _ => exact .of_eq (h kV doc pm an cdv ct u v z)
section
variable {P : Program} {w : World} {K : PySem.W.Frag} {mg : Str → Option Value} {base : Heap}
theorem kn_isint (T : Txt K mg) (h_isint : Has K mg "is_integer" s_isint)  : Kn P w K mg base CX0 1 "is_integer" ["value"] (sp_isint K) := by
  obtain ⟨f, fd, F, m⟩ := h_isint
  exact kn_of (k := 0) F m (F.binds fun _ _ _ _ _ _ us hl => match us, hl with | [_], _ => rfl) sc_isint (fun vs H Q E h => by
    obtain ⟨v, n, rfl, _⟩ := h
    rfl) _ (fun cdv A outer s H E hr => d_isint T  hr) law_isint
theorem kn_isbtn (T : Txt K mg) (h_isbtn : Has K mg "is_button" s_isbtn) (C_isint : Kn P w K mg base CX0 1 "is_integer" ["value"] (sp_isint K)) : Kn P w K mg base CX0 2 "is_button" ["value"] (sp_isbtn K) := by
  obtain ⟨f, fd, F, m⟩ := h_isbtn
  exact kn_of (k := 1) F m (F.binds fun _ _ _ _ _ _ us hl => match us, hl with | [_], _ => rfl) sc_isbtn (fun vs H Q E h => by
    obtain ⟨v, n, rfl, _⟩ := h
    rfl) _ (fun cdv A outer s H E hr => d_isbtn T (by decide) C_isint hr) law_isbtn
theorem kn_istrip (T : Txt K mg) (h_istrip : Has K mg "is_trip" s_istrip)  : Kn P w K mg base CX0 1 "is_trip" ["tree"] (sp_istrip K) := by
  obtain ⟨f, fd, F, m⟩ := h_istrip
  exact kn_of (k := 0) F m (F.binds fun _ _ _ _ _ _ us hl => match us, hl with | [_], _ => rfl) sc_istrip (fun vs H Q E h => by
    obtain ⟨t, v, rfl, _⟩ := h
    rfl) _ (fun cdv A outer s H E hr => d_istrip T  hr) law_istrip
theorem kn_bio (T : Txt K mg) (h_bio : Has K mg "buttons_in_order" s_bio) (C_istrip : Kn P w K mg base CX0 1 "is_trip" ["tree"] (sp_istrip K)) : ∀ n : Nat, Kn P w K mg base CX0 (n + 2) "buttons_in_order" ["tree"] (sp_bio K n)
  | 0 => by
    obtain ⟨f, fd, F, m⟩ := h_bio
    refine kn_void F m (F.binds fun _ _ _ _ _ _ us hl => match us, hl with | [_], _ => rfl) fun vs H Q E h => ?_
    obtain ⟨t, v, _, _, hn, _⟩ := h
    exact absurd hn (Nat.not_lt_zero _)
  | n + 1 => by
    have C := kn_bio T h_bio C_istrip n
    obtain ⟨f, fd, F, m⟩ := h_bio
    exact kn_of (k := n + 2) F m (F.binds fun _ _ _ _ _ _ us hl => match us, hl with | [_], _ => rfl) sc_bio len_bio _ (fun cdv A outer s H E hr => d_bio T (by omega) C_istrip (Nat.le_refl _) C hr) law_bio
theorem kn_bof (T : Txt K mg) (h_bof : Has K mg "buttons_of" s_bof) (C_bio : Kn P w K mg base CX0 10 "buttons_in_order" ["tree"] (sp_bio K 8)) : Kn P w K mg base CX0 11 "buttons_of" ["tree"] (sp_bof K 8) := by
  obtain ⟨f, fd, F, m⟩ := h_bof
  exact kn_of (k := 10) F m (F.binds fun _ _ _ _ _ _ us hl => match us, hl with | [_], _ => rfl) sc_bof (fun vs H Q E h => by
    obtain ⟨t, v, row, rfl, _⟩ := h
    rfl) _ (fun cdv A outer s H E hr => d_bof T (by decide) C_bio hr) law_bof
theorem kn_lerr (T : Txt K mg) (h_lerr : Has K mg "lot_error" s_lerr) (C_isbtn : Kn P w K mg base CX0 2 "is_button" ["value"] (sp_isbtn K)) : Kn P w K mg base CX0 3 "lot_error" ["value"] (sp_lerr K) := by
  obtain ⟨f, fd, F, m⟩ := h_lerr
  exact kn_of (k := 2) F m (F.binds fun _ _ _ _ _ _ us hl => match us, hl with | [_], _ => rfl) sc_lerr (fun vs H Q E h => by
    obtain ⟨v, n, rfl, _⟩ := h
    rfl) _ (fun cdv A outer s H E hr => d_lerr T (by decide) C_isbtn hr) law_lerr
theorem kn_goes (T : Txt K mg) (h_goes : Has K mg "goes" s_goes) (C_istrip : Kn P w K mg base CX0 1 "is_trip" ["tree"] (sp_istrip K)) : ∀ n : Nat, Kn P w K mg base CX0 (n + 2) "goes" ["tree", "lot"] (sp_goes K n)
  | 0 => by
    obtain ⟨f, fd, F, m⟩ := h_goes
    refine kn_void F m (F.binds fun _ _ _ _ _ _ us hl => match us, hl with | [_, _], _ => rfl) fun vs H Q E h => ?_
    obtain ⟨t, v, a, l, _, _, _, hn, _⟩ := h
    exact absurd hn (Nat.not_lt_zero _)
  | n + 1 => by
    have C := kn_goes T h_goes C_istrip n
    obtain ⟨f, fd, F, m⟩ := h_goes
    exact kn_of (k := n + 2) F m (F.binds fun _ _ _ _ _ _ us hl => match us, hl with | [_, _], _ => rfl) sc_goes len_goes _ (fun cdv A outer s H E hr => d_goes T (by omega) C_istrip (Nat.le_refl _) C hr) law_goes
theorem kn_ispl (T : Txt K mg) (h_ispl : Has K mg "is_place" s_ispl)  : Kn P w K mg base CX0 1 "is_place" ["value", "many"] (sp_ispl K) := by
  obtain ⟨f, fd, F, m⟩ := h_ispl
  exact kn_of (k := 0) F m (F.binds fun _ _ _ _ _ _ us hl => match us, hl with | [_, _], _ => rfl) sc_ispl (fun vs H Q E h => by
    obtain ⟨v, n, many, rfl, _⟩ := h
    rfl) _ (fun cdv A outer s H E hr => d_ispl T  hr) law_ispl
theorem kn_gnums_of (T : Txt K mg) (h_gnums : Has K mg "going_numbers" s_gnums) {n : Nat} (C : Kn P w K mg base CX0 (2 * n + 1) "going_many" ["tree", "must", "never"] (sp_gmany K n)) : Kn P w K mg base CX0 (2 * n + 2) "going_numbers" ["parts", "must", "never"] (sp_gnums K n) := by
  obtain ⟨f, fd, F, m⟩ := h_gnums
  exact kn_of (k := 2 * n + 1) F m (F.binds fun _ _ _ _ _ _ us hl => match us, hl with | [_, _, _], _ => rfl) sc_gnums len_gnums _ (fun cdv A outer s H E hr => d_gnums T (Nat.le_refl _) C hr) law_gnums
theorem kn_gmany (T : Txt K mg) (h_gmany : Has K mg "going_many" s_gmany) (h_gnums : Has K mg "going_numbers" s_gnums) : ∀ n : Nat, Kn P w K mg base CX0 (2 * n + 1) "going_many" ["tree", "must", "never"] (sp_gmany K n)
  | 0 => by
    obtain ⟨f, fd, F, m⟩ := h_gmany
    refine kn_void F m (F.binds fun _ _ _ _ _ _ us hl => match us, hl with | [_, _, _], _ => rfl) fun vs H Q E h => ?_
    obtain ⟨t, v, a, b, must, never, _, _, _, _, hn, _⟩ := h
    exact absurd hn (Nat.not_lt_zero _)
  | n + 1 => by
    have C := kn_gnums_of T h_gnums (kn_gmany T h_gmany h_gnums n)
    obtain ⟨f, fd, F, m⟩ := h_gmany
    exact kn_of (k := 2 * n + 2) F m (F.binds fun _ _ _ _ _ _ us hl => match us, hl with | [_, _, _], _ => rfl) sc_gmany len_gmany _ (fun cdv A outer s H E hr => d_gmany T (Nat.le_refl _) C hr) law_gmany
theorem kn_gcount (T : Txt K mg) (h_gcount : Has K mg "going_count" s_gcount) (C_bof : Kn P w K mg base CX0 11 "buttons_of" ["tree"] (sp_bof K 8)) (C_gmany : Kn P w K mg base CX0 17 "going_many" ["tree", "must", "never"] (sp_gmany K 8)) : Kn P w K mg base CX0 18 "going_count" ["tree", "must", "never"] (sp_gcount K) ∧ KnB P w K mg base CX0 18 "going_count" ["tree", "must", "never"] (sp_gcount K) := by
  obtain ⟨f, fd, F, m⟩ := h_gcount
  exact knB_of (k := 17) F m (F.binds fun _ _ _ _ _ _ us hl => match us, hl with | [_, _, _], _ => rfl) (back3 F fun _ _ _ _ _ _ _ _ _ => rfl) sc_gcount len_gcount _ (fun cdv A outer s H E hr => d_gcount T (by decide) C_bof (by decide) C_gmany hr) law_gcount
theorem kn_gat (T : Txt K mg) (h_gat : Has K mg "going_at" s_gat) (C_ispl : Kn P w K mg base CX0 1 "is_place" ["value", "many"] (sp_ispl K)) (C_gcount : Kn P w K mg base CX0 18 "going_count" ["tree", "must", "never"] (sp_gcount K)) (C_bof : Kn P w K mg base CX0 11 "buttons_of" ["tree"] (sp_bof K 8)) (C_goes : Kn P w K mg base CX0 10 "goes" ["tree", "lot"] (sp_goes K 8)) {U fI : Addr} (UT : UnfitTxt P w K mg base U fI) : Kn P w K mg base (L2.CX P w) 19 "going_at" ["tree", "value"] (sp_gat K U) ∧ KnB P w K mg base (L2.CX P w) 19 "going_at" ["tree", "value"] (sp_gat K U) := by
  obtain ⟨f, fd, F, m⟩ := h_gat
  exact kn_ofX (k := 18) F m (F.binds fun _ _ _ _ _ _ us hl => match us, hl with | [_, _], _ => rfl) (back2 F fun _ _ _ _ _ _ _ _ => rfl) sc_gat len_gat (fun E => t_gat K w (sp_ispl K) (sp_gcount K) (sp_bof K 8) (sp_goes K 8) U E) (fun cdv A outer s H E hr => d_gat T (by decide) C_ispl (by decide) C_gcount (by decide) C_bof (by decide) C_goes hr UT (by decide)) law_gat
theorem kn_gnum (T : Txt K mg) (h_gnum : Has K mg "going_number" s_gnum) (C_bof : Kn P w K mg base CX0 11 "buttons_of" ["tree"] (sp_bof K 8)) (C_lerr : Kn P w K mg base CX0 3 "lot_error" ["value"] (sp_lerr K)) (C_goes : Kn P w K mg base CX0 10 "goes" ["tree", "lot"] (sp_goes K 8)) (C_gcount : Kn P w K mg base CX0 18 "going_count" ["tree", "must", "never"] (sp_gcount K)) {U fI : Addr} (UT : UnfitTxt P w K mg base U fI) : Kn P w K mg base (L2.CX P w) 19 "going_number" ["tree", "value"] (sp_gnum K U) ∧ KnB P w K mg base (L2.CX P w) 19 "going_number" ["tree", "value"] (sp_gnum K U) := by
  obtain ⟨f, fd, F, m⟩ := h_gnum
  exact kn_ofX (k := 18) F m (F.binds fun _ _ _ _ _ _ us hl => match us, hl with | [_, _], _ => rfl) (back2 F fun _ _ _ _ _ _ _ _ => rfl) sc_gnum len_gnum (fun E => t_gnum K w (sp_bof K 8) (sp_lerr K) (sp_goes K 8) (sp_gcount K) U E) (fun cdv A outer s H E hr => d_gnum T (by decide) C_bof (by decide) C_lerr (by decide) C_goes (by decide) C_gcount hr UT (by decide)) law_gnum
theorem kn_ltold (T : Txt K mg) (h_ltold : Has K mg "_law_told" s_ltold) {U TE : Addr} (gU : mg "Unfit" = some (.ref U)) (gT : mg "TripError" = some (.ref TE)) (hex : PySem.W.exmOne K (.ref U) (.ref U) = some true)
    (C_gat : Kn P w K mg base (L2.CX P w) 19 "going_at" ["tree", "value"] (sp_gat K U)) (B_gat : KnB P w K mg base (L2.CX P w) 19 "going_at" ["tree", "value"] (sp_gat K U))
    (C_gnum : Kn P w K mg base (L2.CX P w) 19 "going_number" ["tree", "value"] (sp_gnum K U)) (B_gnum : KnB P w K mg base (L2.CX P w) 19 "going_number" ["tree", "value"] (sp_gnum K U))
    : Kn P w K mg base CX0 20 "_law_told" ["_law_tree_here", "_law_thing", "_law_way"] (sp_ltold K) := by
  obtain ⟨f, fd, F, m⟩ := h_ltold
  exact kn_of (k := 19) F m (F.binds fun _ _ _ _ _ _ us hl => match us, hl with | [_, _, _], _ => rfl) sc_ltold len_ltold _ (fun cdv A outer s H E hr => d_ltold T (by decide) C_gat (by decide) C_gnum B_gat B_gnum gU gT hr) (law_ltold hex)
theorem kn_lbag (T : Txt K mg) (h_lbag : Has K mg "_law_bag" s_lbag)  : Kn P w K mg base CX0 1 "_law_bag" ["_law_script"] (sp_lbag K) := by
  obtain ⟨f, fd, F, m⟩ := h_lbag
  exact kn_of (k := 0) F m (F.binds fun _ _ _ _ _ _ us hl => match us, hl with | [_], _ => rfl) sc_lbag len_lbag _ (fun cdv A outer s H E hr => d_lbag T  hr) law_lbag
theorem kn_ldraw (T : Txt K mg) (h_ldraw : Has K mg "_law_draw" s_ldraw)  : Kn P w K mg base CX0 1 "_law_draw" ["_law_bag_here", "_law_many"] (sp_ldraw K) := by
  obtain ⟨f, fd, F, m⟩ := h_ldraw
  exact kn_of (k := 0) F m (F.binds fun _ _ _ _ _ _ us hl => match us, hl with | [_, _], _ => rfl) sc_ldraw len_ldraw _ (fun cdv A outer s H E hr => d_ldraw T  hr) law_ldraw
theorem kn_lpick (T : Txt K mg) (h_lpick : Has K mg "_law_pick" s_lpick) (C_ldraw : Kn P w K mg base CX0 1 "_law_draw" ["_law_bag_here", "_law_many"] (sp_ldraw K)) : Kn P w K mg base CX0 2 "_law_pick" ["_law_bag_here", "_law_items"] (sp_lpick K) := by
  obtain ⟨f, fd, F, m⟩ := h_lpick
  exact kn_of (k := 1) F m (F.binds fun _ _ _ _ _ _ us hl => match us, hl with | [_, _], _ => rfl) sc_lpick len_lpick _ (fun cdv A outer s H E hr => d_lpick T (by decide) C_ldraw hr) law_lpick
theorem kn_lmixed (T : Txt K mg) (h_lmixed : Has K mg "_law_mixed" s_lmixed) (C_ldraw : Kn P w K mg base CX0 1 "_law_draw" ["_law_bag_here", "_law_many"] (sp_ldraw K)) : Kn P w K mg base CX0 2 "_law_mixed" ["_law_bag_here", "_law_items"] (sp_lmixed K) := by
  obtain ⟨f, fd, F, m⟩ := h_lmixed
  exact kn_of (k := 1) F m (F.binds fun _ _ _ _ _ _ us hl => match us, hl with | [_, _], _ => rfl) sc_lmixed len_lmixed _ (fun cdv A outer s H E hr => d_lmixed T (by decide) C_ldraw hr) law_lmixed
theorem kn_lbuttons (T : Txt K mg) (h_lbuttons : Has K mg "_law_buttons" s_lbuttons) (C_ldraw : Kn P w K mg base CX0 1 "_law_draw" ["_law_bag_here", "_law_many"] (sp_ldraw K)) : Kn P w K mg base CX0 2 "_law_buttons" ["_law_bag_here", "_law_many"] (sp_lbuttons K) := by
  obtain ⟨f, fd, F, m⟩ := h_lbuttons
  exact kn_of (k := 1) F m (F.binds fun _ _ _ _ _ _ us hl => match us, hl with | [_, _], _ => rfl) sc_lbuttons len_lbuttons _ (fun cdv A outer s H E hr => d_lbuttons T (by decide) C_ldraw hr) law_lbuttons
theorem kn_ltree (T : Txt K mg) (h_ltree : Has K mg "_law_tree" s_ltree) (C_ldraw : Kn P w K mg base CX0 1 "_law_draw" ["_law_bag_here", "_law_many"] (sp_ldraw K)) (C_lpick : Kn P w K mg base CX0 2 "_law_pick" ["_law_bag_here", "_law_items"] (sp_lpick K)) : ∀ n : Nat, Kn P w K mg base CX0 (n + 3) "_law_tree" ["_law_bag_here", "_law_row", "_law_deep"] (sp_ltree K n)
  | 0 => by
    obtain ⟨f, fd, F, m⟩ := h_ltree
    refine kn_void F m (F.binds fun _ _ _ _ _ _ us hl => match us, hl with | [_, _, _], _ => rfl) fun vs H Q E h => ?_
    obtain ⟨p, g, a, row, deep, _, _, _, _, _, _, _, hn, _⟩ := h
    exact absurd hn (Nat.not_lt_zero _)
  | n + 1 => by
    have C := kn_ltree T h_ltree C_ldraw C_lpick n
    obtain ⟨f, fd, F, m⟩ := h_ltree
    exact kn_of (k := n + 3) F m (F.binds fun _ _ _ _ _ _ us hl => match us, hl with | [_, _, _], _ => rfl) sc_ltree len_ltree _ (fun cdv A outer s H E hr => d_ltree T (by omega) C_ldraw (by omega) C_lpick (Nat.le_refl _) C hr) law_ltree
theorem kn_lheld (T : Txt K mg) (h_lheld : Has K mg "_law_held" s_lheld)  : ∀ n : Nat, Kn P w K mg base CX0 (n + 1) "_law_held" ["_law_tree_here"] (sp_lheld K n)
  | 0 => by
    obtain ⟨f, fd, F, m⟩ := h_lheld
    refine kn_void F m (F.binds fun _ _ _ _ _ _ us hl => match us, hl with | [_], _ => rfl) fun vs H Q E h => ?_
    obtain ⟨t, v, _, _, hn, _⟩ := h
    exact absurd hn (Nat.not_lt_zero _)
  | n + 1 => by
    have C := kn_lheld T h_lheld  n
    obtain ⟨f, fd, F, m⟩ := h_lheld
    exact kn_of (k := n + 1) F m (F.binds fun _ _ _ _ _ _ us hl => match us, hl with | [_], _ => rfl) sc_lheld len_lheld _ (fun cdv A outer s H E hr => d_lheld T  (Nat.le_refl _) C hr) law_lheld
theorem kn_levery (T : Txt K mg) (h_levery : Has K mg "_law_every" s_levery)  : Kn P w K mg base CX0 1 "_law_every" ["_law_row"] (sp_levery K) := by
  obtain ⟨f, fd, F, m⟩ := h_levery
  exact kn_of (k := 0) F m (F.binds fun _ _ _ _ _ _ us hl => match us, hl with | [_], _ => rfl) sc_levery len_levery _ (fun cdv A outer s H E hr => d_levery T  hr) law_levery
theorem kn_lwords (T : Txt K mg) (h_lwords : Has K mg "_law_words" s_lwords)  : ∀ n : Nat, Kn P w K mg base CX0 (n + 1) "_law_words" ["_law_tree_here", "_law_every_here"] (sp_lwords K n)
  | 0 => by
    obtain ⟨f, fd, F, m⟩ := h_lwords
    refine kn_void F m (F.binds fun _ _ _ _ _ _ us hl => match us, hl with | [_, _], _ => rfl) fun vs H Q E h => ?_
    obtain ⟨t, v, a, bs, _, _, hn, _⟩ := h
    exact absurd hn (Nat.not_lt_zero _)
  | n + 1 => by
    have C := kn_lwords T h_lwords  n
    obtain ⟨f, fd, F, m⟩ := h_lwords
    exact kn_of (k := n + 1) F m (F.binds fun _ _ _ _ _ _ us hl => match us, hl with | [_, _], _ => rfl) sc_lwords len_lwords _ (fun cdv A outer s H E hr => d_lwords T  (Nat.le_refl _) C hr) law_lwords
theorem kn_lgoes (T : Txt K mg) (h_lgoes : Has K mg "_law_goes" s_lgoes)  : ∀ n : Nat, Kn P w K mg base CX0 (n + 1) "_law_goes" ["_law_tree_here", "_law_some"] (sp_goes K n)
  | 0 => by
    obtain ⟨f, fd, F, m⟩ := h_lgoes
    refine kn_void F m (F.binds fun _ _ _ _ _ _ us hl => match us, hl with | [_, _], _ => rfl) fun vs H Q E h => ?_
    obtain ⟨t, v, a, l, _, _, _, hn, _⟩ := h
    exact absurd hn (Nat.not_lt_zero _)
  | n + 1 => by
    have C := kn_lgoes T h_lgoes  n
    obtain ⟨f, fd, F, m⟩ := h_lgoes
    exact kn_of (k := n + 1) F m (F.binds fun _ _ _ _ _ _ us hl => match us, hl with | [_, _], _ => rfl) sc_lgoes len_lgoes _ (fun cdv A outer s H E hr => d_lgoes T  (Nat.le_refl _) C hr) law_lgoes
theorem kn_lsides (T : Txt K mg) (h_lsides : Has K mg "_law_sides" s_lsides)  : ∀ n : Nat, Kn P w K mg base CX0 (n + 1) "_law_sides" ["_law_tree_here", "_law_must", "_law_never"] (sp_gmany K n)
  | 0 => by
    obtain ⟨f, fd, F, m⟩ := h_lsides
    refine kn_void F m (F.binds fun _ _ _ _ _ _ us hl => match us, hl with | [_, _, _], _ => rfl) fun vs H Q E h => ?_
    obtain ⟨t, v, a, b, must, never, _, _, _, _, hn, _⟩ := h
    exact absurd hn (Nat.not_lt_zero _)
  | n + 1 => by
    have C := kn_lsides T h_lsides  n
    obtain ⟨f, fd, F, m⟩ := h_lsides
    exact kn_of (k := n + 1) F m (F.binds fun _ _ _ _ _ _ us hl => match us, hl with | [_, _, _], _ => rfl) sc_lsides len_lsides _ (fun cdv A outer s H E hr => d_lsides T  (Nat.le_refl _) C hr) law_lsides
theorem kn_lgmany (T : Txt K mg) (h_lgmany : Has K mg "_law_going_many" s_lgmany) (C_lheld : Kn P w K mg base CX0 9 "_law_held" ["_law_tree_here"] (sp_lheld K 8)) (C_lsides : Kn P w K mg base CX0 9 "_law_sides" ["_law_tree_here", "_law_must", "_law_never"] (sp_gmany K 8)) : Kn P w K mg base CX0 10 "_law_going_many" ["_law_tree_here", "_law_must", "_law_never"] (sp_lgmany K) := by
  obtain ⟨f, fd, F, m⟩ := h_lgmany
  exact kn_of (k := 9) F m (F.binds fun _ _ _ _ _ _ us hl => match us, hl with | [_, _, _], _ => rfl) sc_lgmany len_lgmany _ (fun cdv A outer s H E hr => d_lgmany T (by decide) C_lheld (by decide) C_lsides hr) law_lgmany
theorem kn_lodds (T : Txt K mg) (h_lodds : Has K mg "_law_odds" s_lodds)  : Kn P w K mg base CX0 1 "_law_odds" ["_law_many"] (sp_lodds K) := by
  obtain ⟨f, fd, F, m⟩ := h_lodds
  exact kn_of (k := 0) F m (F.binds fun _ _ _ _ _ _ us hl => match us, hl with | [_], _ => rfl) sc_lodds len_lodds _ (fun cdv A outer s H E hr => d_lodds T  hr) law_lodds
theorem kn_llot (T : Txt K mg) (h_llot : Has K mg "_law_lot" s_llot) (C_ldraw : Kn P w K mg base CX0 1 "_law_draw" ["_law_bag_here", "_law_many"] (sp_ldraw K)) : Kn P w K mg base CX0 2 "_law_lot" ["_law_bag_here", "_law_row", "_law_often"] (sp_llot K) := by
  obtain ⟨f, fd, F, m⟩ := h_llot
  exact kn_of (k := 1) F m (F.binds fun _ _ _ _ _ _ us hl => match us, hl with | [_, _, _], _ => rfl) sc_llot len_llot _ (fun cdv A outer s H E hr => d_llot T (by decide) C_ldraw hr) law_llot
theorem kn_lnumber (T : Txt K mg) (h_lnumber : Has K mg "_law_number" s_lnumber) (C_lheld : Kn P w K mg base CX0 9 "_law_held" ["_law_tree_here"] (sp_lheld K 8)) (C_lgoes : Kn P w K mg base CX0 9 "_law_goes" ["_law_tree_here", "_law_some"] (sp_goes K 8)) (C_lsides : Kn P w K mg base CX0 9 "_law_sides" ["_law_tree_here", "_law_must", "_law_never"] (sp_gmany K 8)) : Kn P w K mg base CX0 10 "_law_number" ["_law_tree_here", "_law_some"] (sp_lnumber K) := by
  obtain ⟨f, fd, F, m⟩ := h_lnumber
  exact kn_of (k := 9) F m (F.binds fun _ _ _ _ _ _ us hl => match us, hl with | [_, _], _ => rfl) sc_lnumber len_lnumber _ (fun cdv A outer s H E hr => d_lnumber T (by decide) C_lheld (by decide) C_lgoes (by decide) C_lsides hr) law_lnumber
theorem kn_lodd (T : Txt K mg) (h_lodd : Has K mg "_law_is_odd_refused" s_lodd) (C_ltold : Kn P w K mg base CX0 20 "_law_told" ["_law_tree_here", "_law_thing", "_law_way"] (sp_ltold K)) (C_ldraw : Kn P w K mg base CX0 1 "_law_draw" ["_law_bag_here", "_law_many"] (sp_ldraw K)) (C_lpick : Kn P w K mg base CX0 2 "_law_pick" ["_law_bag_here", "_law_items"] (sp_lpick K)) (C_lodds : Kn P w K mg base CX0 1 "_law_odds" ["_law_many"] (sp_lodds K)) (C_lgoes : Kn P w K mg base CX0 9 "_law_goes" ["_law_tree_here", "_law_some"] (sp_goes K 8)) : Kn P w K mg base CX0 21 "_law_is_odd_refused" ["_law_bag_here", "_law_tree_here", "_law_row", "_law_some", "_law_many"] (sp_lodd K) := by
  obtain ⟨f, fd, F, m⟩ := h_lodd
  exact kn_of (k := 20) F m (F.binds fun _ _ _ _ _ _ us hl => match us, hl with | [_, _, _, _, _], _ => rfl) sc_lodd len_lodd _ (fun cdv A outer s H E hr => d_lodd T (by decide) C_ltold (by decide) C_ldraw (by decide) C_lpick (by decide) C_lodds (by decide) C_lgoes hr) law_lodd
theorem kn_lcounted (T : Txt K mg) (h_lcounted : Has K mg "_law_are_counted" s_lcounted) (C_lpick : Kn P w K mg base CX0 2 "_law_pick" ["_law_bag_here", "_law_items"] (sp_lpick K)) (C_llot : Kn P w K mg base CX0 2 "_law_lot" ["_law_bag_here", "_law_row", "_law_often"] (sp_llot K)) (C_lgmany : Kn P w K mg base CX0 10 "_law_going_many" ["_law_tree_here", "_law_must", "_law_never"] (sp_lgmany K)) (C_gcount : Kn P w K mg base CX0 18 "going_count" ["tree", "must", "never"] (sp_gcount K)) (B_gcount : KnB P w K mg base CX0 18 "going_count" ["tree", "must", "never"] (sp_gcount K)) : Kn P w K mg base CX0 19 "_law_are_counted" ["_law_bag_here", "_law_tree_here", "_law_row", "_law_going"] (sp_lcounted K) := by
  obtain ⟨f, fd, F, m⟩ := h_lcounted
  exact kn_of (k := 18) F m (F.binds fun _ _ _ _ _ _ us hl => match us, hl with | [_, _, _, _], _ => rfl) sc_lcounted len_lcounted _ (fun cdv A outer s H E hr => d_lcounted T (by decide) C_lpick (by decide) C_llot (by decide) C_lgmany (by decide) C_gcount B_gcount hr) law_lcounted
theorem kn_lwide (T : Txt K mg) (h_lwide : Has K mg "_law_is_widest" s_lwide) (C_ldraw : Kn P w K mg base CX0 1 "_law_draw" ["_law_bag_here", "_law_many"] (sp_ldraw K)) (C_lmixed : Kn P w K mg base CX0 2 "_law_mixed" ["_law_bag_here", "_law_items"] (sp_lmixed K)) (C_lbuttons : Kn P w K mg base CX0 2 "_law_buttons" ["_law_bag_here", "_law_many"] (sp_lbuttons K)) (C_lsides : Kn P w K mg base CX0 9 "_law_sides" ["_law_tree_here", "_law_must", "_law_never"] (sp_gmany K 8)) (C_lpick : Kn P w K mg base CX0 2 "_law_pick" ["_law_bag_here", "_law_items"] (sp_lpick K)) (C_ltold : Kn P w K mg base CX0 20 "_law_told" ["_law_tree_here", "_law_thing", "_law_way"] (sp_ltold K)) (C_lgoes : Kn P w K mg base CX0 9 "_law_goes" ["_law_tree_here", "_law_some"] (sp_goes K 8)) (C_lnumber : Kn P w K mg base CX0 10 "_law_number" ["_law_tree_here", "_law_some"] (sp_lnumber K)) : Kn P w K mg base CX0 21 "_law_is_widest" ["_law_bag_here"] (sp_lwide K) := by
  obtain ⟨f, fd, F, m⟩ := h_lwide
  exact kn_of (k := 20) F m (F.binds fun _ _ _ _ _ _ us hl => match us, hl with | [_], _ => rfl) sc_lwide len_lwide _ (fun cdv A outer s H E hr => d_lwide T (by decide) C_ldraw (by decide) C_lmixed (by decide) C_lbuttons (by decide) C_lsides (by decide) C_lpick (by decide) C_ltold (by decide) C_lgoes (by decide) C_lnumber hr) law_lwide
end
end K19

namespace K19
open PySem PySem.Spec PyProof.Rows L2
abbrev s_ini : Stmt := inClass (topS 2) 0
theorem sc_ini : FnScope ["self"] ["self"] (defScope s_ini) := ⟨rfl, rfl, rfl, by decide +kernel, rfl, by decide +kernel, by decide +kernel⟩
def t_ini (K : PySem.W.Frag) : TS := tDrop (tVeI K (tCons (tVar 0) (tCons (tC (.str "what does not fit")) tNil)))
theorem ini_ok {P : Program} {w : World} {K : PySem.W.Frag} {mg : Str → Option Value} {base : Heap} {U TE fI : Addr} {mc : Value} {fd : FuncData} (F : Fun K "__init__" "Unfit.__init__" s_ini fI fd) (B : BaseTxt K mg TE mc) (O : OexC K U) : FnOk P w K mg base CX0 1 fI fd ["self"] (spIni U) := by
  refine F.ok sc_ini (fun vs H Q E h => ?_) fun cdv A outer s H vs Q E hr h => ⟨t_ini K, ?_, ?_⟩
  · obtain ⟨a, rfl, _⟩ := h
    rfl
  · exact pss_one (ps_expr (pe_baseIni B (by rfl) (pa_cons (pv 0) (pa_cons pe_str pa_nil))))
  · obtain ⟨a, rfl, ha, q⟩ := h
    exact ⟨_, rfl, a, U, _, rfl, (by show 1 ≤ 1000; decide), O, ha, q⟩
theorem unfit_txt {P : Program} {w : World} {K : PySem.W.Frag} {mg : Str → Option Value} {base : Heap} {U TE fI : Addr} {mc : Value} (F : ∃ fd, Fun K "__init__" "Unfit.__init__" s_ini fI fd) (B : BaseTxt K mg TE mc) (O : OexC K U) (gU : mg "Unfit" = some (.ref U))
    (ini : PySem.W.findIn K (.ref U) "__init__" = some (some (.ref fI))) (tI : PySem.W.typeIn K (.ref fI) = some (.type "function")) : UnfitTxt P w K mg base U fI := by
  obtain ⟨fd, F⟩ := F
  exact ⟨O, gU, ini, tI, fd, ini_ok F B O, F.binds fun _ _ _ _ _ _ us hl => match us, hl with | [_], _ => rfl⟩
/-- an error of the class at S is what a clause of it names -/
theorem exm_own {K : PySem.W.Frag} {S : Addr} (h1 : PySem.W.subIn K (.ref S) (.type "BaseException") = some true) (h2 : PySem.W.isClsIn K S = true) (h3 : PySem.W.typeIn K (.ref S) = some (.type "type")) (h4 : PySem.W.subIn K (.ref S) (.ref S) = some true) :
    PySem.W.exmOne K (.ref S) (.ref S) = some true := by
  have e1 : (PySem.W.subIn K (.ref S) (.type "BaseException") == some true) = true := by rw [h1] <;> rfl
  have e2 : ((PySem.W.clsIn K S).isSome && PySem.W.typeIn K (.ref S) == some (.type "type")) = true := by
    have h2' : (PySem.W.clsIn K S).isSome = true := h2
    rw [h2', h3] <;> rfl
  show (if (PySem.W.subIn K (.ref S) (.type "BaseException") == some true) = true then (if ((PySem.W.clsIn K S).isSome && PySem.W.typeIn K (.ref S) == some (.type "type")) = true then PySem.W.subIn K (.ref S) (.ref S) else none) else none) = some true
  rw [if_pos e1, if_pos e2]
  exact h4
theorem room22 : Room 22 callerA := ⟨rfl, by decide, by decide⟩
theorem all_runs {P : Program} {w : World} {K : PySem.W.Frag} {mg : Str → Option Value} {fa U TE fI : Addr} {mc : Value} (T : Txt K mg)
    (h_isint : Has K mg "is_integer" s_isint)
    (h_isbtn : Has K mg "is_button" s_isbtn)
    (h_istrip : Has K mg "is_trip" s_istrip)
    (h_bio : Has K mg "buttons_in_order" s_bio)
    (h_bof : Has K mg "buttons_of" s_bof)
    (h_lerr : Has K mg "lot_error" s_lerr)
    (h_goes : Has K mg "goes" s_goes)
    (h_ispl : Has K mg "is_place" s_ispl)
    (h_gnums : Has K mg "going_numbers" s_gnums)
    (h_gmany : Has K mg "going_many" s_gmany)
    (h_gcount : Has K mg "going_count" s_gcount)
    (h_gat : Has K mg "going_at" s_gat)
    (h_gnum : Has K mg "going_number" s_gnum)
    (h_lbag : Has K mg "_law_bag" s_lbag)
    (h_ldraw : Has K mg "_law_draw" s_ldraw)
    (h_lpick : Has K mg "_law_pick" s_lpick)
    (h_lmixed : Has K mg "_law_mixed" s_lmixed)
    (h_lbuttons : Has K mg "_law_buttons" s_lbuttons)
    (h_ltree : Has K mg "_law_tree" s_ltree)
    (h_lheld : Has K mg "_law_held" s_lheld)
    (h_levery : Has K mg "_law_every" s_levery)
    (h_lwords : Has K mg "_law_words" s_lwords)
    (h_lgoes : Has K mg "_law_goes" s_lgoes)
    (h_lsides : Has K mg "_law_sides" s_lsides)
    (h_lgmany : Has K mg "_law_going_many" s_lgmany)
    (h_lodds : Has K mg "_law_odds" s_lodds)
    (h_llot : Has K mg "_law_lot" s_llot)
    (h_ltold : Has K mg "_law_told" s_ltold)
    (h_lnumber : Has K mg "_law_number" s_lnumber)
    (h_lodd : Has K mg "_law_is_odd_refused" s_lodd)
    (h_lcounted : Has K mg "_law_are_counted" s_lcounted)
    (h_lwide : Has K mg "_law_is_widest" s_lwide)
    (F : ∃ fd, Fun K "law" "law" s_llaw fa fd) (FI : ∃ fd, Fun K "__init__" "Unfit.__init__" s_ini fI fd) (B : BaseTxt K mg TE mc) (O : OexC K U) (gU : mg "Unfit" = some (.ref U)) (ini : PySem.W.findIn K (.ref U) "__init__" = some (some (.ref fI))) (tI : PySem.W.typeIn K (.ref fI) = some (.type "function"))
    (hex : PySem.W.exmOne K (.ref U) (.ref U) = some true) : LawRuns P w K mg 63 fa := by
  intro base s H a ns e0 hS hl
  have UT : UnfitTxt P w K mg base U fI := unfit_txt FI B O gU ini tI
  have C_isint := kn_isint (P := P) (w := w) (base := base) T h_isint
  have C_isbtn := kn_isbtn T h_isbtn C_isint
  have C_istrip := kn_istrip (P := P) (w := w) (base := base) T h_istrip
  have C_bio := kn_bio T h_bio C_istrip 8
  have C_bof := kn_bof T h_bof C_bio
  have C_lerr := kn_lerr T h_lerr C_isbtn
  have C_goes := kn_goes T h_goes C_istrip 8
  have C_ispl := kn_ispl (P := P) (w := w) (base := base) T h_ispl
  have C_gmany := kn_gmany (P := P) (w := w) (base := base) T h_gmany h_gnums 8
  obtain ⟨C_gcount, B_gcount⟩ := kn_gcount T h_gcount C_bof C_gmany
  obtain ⟨C_gat, B_gat⟩ := kn_gat T h_gat C_ispl C_gcount C_bof C_goes UT
  obtain ⟨C_gnum, B_gnum⟩ := kn_gnum T h_gnum C_bof C_lerr C_goes C_gcount UT
  have C_ltold := kn_ltold T h_ltold gU B.gT hex C_gat B_gat C_gnum B_gnum
  have C_lbag := kn_lbag (P := P) (w := w) (base := base) T h_lbag
  have C_ldraw := kn_ldraw (P := P) (w := w) (base := base) T h_ldraw
  have C_lpick := kn_lpick T h_lpick C_ldraw
  have C_lmixed := kn_lmixed T h_lmixed C_ldraw
  have C_lbuttons := kn_lbuttons T h_lbuttons C_ldraw
  have C_ltree := kn_ltree T h_ltree C_ldraw C_lpick 6
  have C_lheld := kn_lheld (P := P) (w := w) (base := base) T h_lheld 8
  have C_levery := kn_levery (P := P) (w := w) (base := base) T h_levery
  have C_lwords := kn_lwords (P := P) (w := w) (base := base) T h_lwords 8
  have C_lgoes := kn_lgoes (P := P) (w := w) (base := base) T h_lgoes 8
  have C_lsides := kn_lsides (P := P) (w := w) (base := base) T h_lsides 8
  have C_lgmany := kn_lgmany T h_lgmany C_lheld C_lsides
  have C_lodds := kn_lodds (P := P) (w := w) (base := base) T h_lodds
  have C_llot := kn_llot T h_llot C_ldraw
  have C_lnumber := kn_lnumber T h_lnumber C_lheld C_lgoes C_lsides
  have C_lodd := kn_lodd T h_lodd C_ltold C_ldraw C_lpick C_lodds C_lgoes
  have C_lcounted := kn_lcounted T h_lcounted C_lpick C_llot C_lgmany C_gcount B_gcount
  have C_lwide := kn_lwide T h_lwide C_ldraw C_lmixed C_lbuttons C_lsides C_lpick C_ltold C_lgoes C_lnumber
  obtain ⟨fd, F⟩ := F
  have hb : BindsTo s fd ⟨[.ref a], []⟩ ((["_law_script"] : List Str).zip [Value.ref a]) := by
    obtain ⟨oc, od, kV, doc, pm, an, cdv, ct, osl, rfl, lk, hcd⟩ := F.ex
    exact .of_eq rfl
  refine runs_at (k := 21) F sc_llaw callerA [] s H ⟨[.ref a], []⟩ [.ref a] [.ref a] (fun v _ => v = .bl true) room22 e0 hb (.cons rfl .nil) rfl fun cdv hr => ⟨_, d_llaw T (by decide) C_lbag (by decide) C_lbuttons (by decide) C_ldraw (by decide) C_ltree (by decide) C_lmixed (by decide) C_levery (by decide) C_lwords (by decide) C_ltold (by decide) C_lcounted (by decide) C_lodd (by decide) C_lpick (by decide) C_lwide (by decide) C_lsides (by decide) C_lgoes (by decide) C_lnumber hr rfl, ?_⟩
  exact law_llaw _ H _ E0 ⟨a, ns, rfl, hS, by omega, fun _ => rfl⟩
end K19

namespace K19
open PySem PySem.Spec PyProof.Rows L2
theorem all_mk {P : Program} {w : World} {K : PySem.W.Frag} {h : Heap} {mg : Str → Option Value} {fa : Addr} (X : K.In h) (G : h.Ns mainGlobals mg) (hfa : mg "law" = some (.ref fa))
    {f_isint f_isbtn f_istrip f_bio f_bof f_lerr f_goes f_ispl f_gnums f_gmany f_gcount f_gat f_gnum f_lbag f_ldraw f_lpick f_lmixed f_lbuttons f_ltree f_lheld f_levery f_lwords f_lgoes f_lsides f_lgmany f_lodds f_llot f_ltold f_lnumber f_lodd f_lcounted f_lwide f_llaw U TE fI : Addr}
    {od_isint an_isint od_isbtn an_isbtn od_istrip an_istrip od_bio an_bio od_bof an_bof od_lerr an_lerr od_goes an_goes od_ispl an_ispl od_gnums an_gnums od_gmany an_gmany od_gcount an_gcount od_gat an_gat od_gnum an_gnum od_lbag an_lbag od_ldraw an_ldraw od_lpick an_lpick od_lmixed an_lmixed od_lbuttons an_lbuttons od_ltree an_ltree od_lheld an_lheld od_levery an_levery od_lwords an_lwords od_lgoes an_lgoes od_lsides an_lsides od_lgmany an_lgmany od_lodds an_lodds od_llot an_llot od_ltold an_ltold od_lnumber an_lnumber od_lodd an_lodd od_lcounted an_lcounted od_lwide an_lwide od_llaw an_llaw od_ini an_ini : Option Addr} {sl_isint sl_isbtn sl_istrip sl_bio sl_bof sl_lerr sl_goes sl_ispl sl_gnums sl_gmany sl_gcount sl_gat sl_gnum sl_lbag sl_ldraw sl_lpick sl_lmixed sl_lbuttons sl_ltree sl_lheld sl_levery sl_lwords sl_lgoes sl_lsides sl_lgmany sl_lodds sl_llot sl_ltold sl_lnumber sl_lodd sl_lcounted sl_lwide sl_llaw sl_ini : Array (Option Value)}
    {oc_isint kV_isint dc_isint pm_isint cd_isint ct_isint oc_isbtn kV_isbtn dc_isbtn pm_isbtn cd_isbtn ct_isbtn oc_istrip kV_istrip dc_istrip pm_istrip cd_istrip ct_istrip oc_bio kV_bio dc_bio pm_bio cd_bio ct_bio oc_bof kV_bof dc_bof pm_bof cd_bof ct_bof oc_lerr kV_lerr dc_lerr pm_lerr cd_lerr ct_lerr oc_goes kV_goes dc_goes pm_goes cd_goes ct_goes oc_ispl kV_ispl dc_ispl pm_ispl cd_ispl ct_ispl oc_gnums kV_gnums dc_gnums pm_gnums cd_gnums ct_gnums oc_gmany kV_gmany dc_gmany pm_gmany cd_gmany ct_gmany oc_gcount kV_gcount dc_gcount pm_gcount cd_gcount ct_gcount oc_gat kV_gat dc_gat pm_gat cd_gat ct_gat oc_gnum kV_gnum dc_gnum pm_gnum cd_gnum ct_gnum oc_lbag kV_lbag dc_lbag pm_lbag cd_lbag ct_lbag oc_ldraw kV_ldraw dc_ldraw pm_ldraw cd_ldraw ct_ldraw oc_lpick kV_lpick dc_lpick pm_lpick cd_lpick ct_lpick oc_lmixed kV_lmixed dc_lmixed pm_lmixed cd_lmixed ct_lmixed oc_lbuttons kV_lbuttons dc_lbuttons pm_lbuttons cd_lbuttons ct_lbuttons oc_ltree kV_ltree dc_ltree pm_ltree cd_ltree ct_ltree oc_lheld kV_lheld dc_lheld pm_lheld cd_lheld ct_lheld oc_levery kV_levery dc_levery pm_levery cd_levery ct_levery oc_lwords kV_lwords dc_lwords pm_lwords cd_lwords ct_lwords oc_lgoes kV_lgoes dc_lgoes pm_lgoes cd_lgoes ct_lgoes oc_lsides kV_lsides dc_lsides pm_lsides cd_lsides ct_lsides oc_lgmany kV_lgmany dc_lgmany pm_lgmany cd_lgmany ct_lgmany oc_lodds kV_lodds dc_lodds pm_lodds cd_lodds ct_lodds oc_llot kV_llot dc_llot pm_llot cd_llot ct_llot oc_ltold kV_ltold dc_ltold pm_ltold cd_ltold ct_ltold oc_lnumber kV_lnumber dc_lnumber pm_lnumber cd_lnumber ct_lnumber oc_lodd kV_lodd dc_lodd pm_lodd cd_lodd ct_lodd oc_lcounted kV_lcounted dc_lcounted pm_lcounted cd_lcounted ct_lcounted oc_lwide kV_lwide dc_lwide pm_lwide cd_lwide ct_lwide oc_llaw kV_llaw dc_llaw pm_llaw cd_llaw ct_llaw oc_ini kV_ini dc_ini pm_ini cd_ini ct_ini : Value} {tB tL : Tok}
    {nm q : Str} {N : Addr} {bs bm : List Value} {sn : List Str} {sub : List Value} {ab : Bool} {col : Option Bool} {dd : Option Addr} {m0 m1 m2 m3 m5 : Option Value}
    (a_isint : PySem.W.nsIn K mainGlobals "is_integer" = some (some (.ref f_isint))) (l_isint : K.lookup f_isint = some ⟨oc_isint, od_isint, .func (PySem.W.fnOf "is_integer" "is_integer" (defArgs s_isint) (defBody s_isint) (defScope s_isint) .none kV_isint dc_isint pm_isint an_isint cd_isint ct_isint), sl_isint⟩) (c_isint : PySem.W.codeIn K cd_isint "is_integer" = true) (k_isint : PySem.W.keepIn K (.ref f_isint) = true)
    (a_isbtn : PySem.W.nsIn K mainGlobals "is_button" = some (some (.ref f_isbtn))) (l_isbtn : K.lookup f_isbtn = some ⟨oc_isbtn, od_isbtn, .func (PySem.W.fnOf "is_button" "is_button" (defArgs s_isbtn) (defBody s_isbtn) (defScope s_isbtn) .none kV_isbtn dc_isbtn pm_isbtn an_isbtn cd_isbtn ct_isbtn), sl_isbtn⟩) (c_isbtn : PySem.W.codeIn K cd_isbtn "is_button" = true) (k_isbtn : PySem.W.keepIn K (.ref f_isbtn) = true)
    (a_istrip : PySem.W.nsIn K mainGlobals "is_trip" = some (some (.ref f_istrip))) (l_istrip : K.lookup f_istrip = some ⟨oc_istrip, od_istrip, .func (PySem.W.fnOf "is_trip" "is_trip" (defArgs s_istrip) (defBody s_istrip) (defScope s_istrip) .none kV_istrip dc_istrip pm_istrip an_istrip cd_istrip ct_istrip), sl_istrip⟩) (c_istrip : PySem.W.codeIn K cd_istrip "is_trip" = true) (k_istrip : PySem.W.keepIn K (.ref f_istrip) = true)
    (a_bio : PySem.W.nsIn K mainGlobals "buttons_in_order" = some (some (.ref f_bio))) (l_bio : K.lookup f_bio = some ⟨oc_bio, od_bio, .func (PySem.W.fnOf "buttons_in_order" "buttons_in_order" (defArgs s_bio) (defBody s_bio) (defScope s_bio) .none kV_bio dc_bio pm_bio an_bio cd_bio ct_bio), sl_bio⟩) (c_bio : PySem.W.codeIn K cd_bio "buttons_in_order" = true) (k_bio : PySem.W.keepIn K (.ref f_bio) = true)
    (a_bof : PySem.W.nsIn K mainGlobals "buttons_of" = some (some (.ref f_bof))) (l_bof : K.lookup f_bof = some ⟨oc_bof, od_bof, .func (PySem.W.fnOf "buttons_of" "buttons_of" (defArgs s_bof) (defBody s_bof) (defScope s_bof) .none kV_bof dc_bof pm_bof an_bof cd_bof ct_bof), sl_bof⟩) (c_bof : PySem.W.codeIn K cd_bof "buttons_of" = true) (k_bof : PySem.W.keepIn K (.ref f_bof) = true)
    (a_lerr : PySem.W.nsIn K mainGlobals "lot_error" = some (some (.ref f_lerr))) (l_lerr : K.lookup f_lerr = some ⟨oc_lerr, od_lerr, .func (PySem.W.fnOf "lot_error" "lot_error" (defArgs s_lerr) (defBody s_lerr) (defScope s_lerr) .none kV_lerr dc_lerr pm_lerr an_lerr cd_lerr ct_lerr), sl_lerr⟩) (c_lerr : PySem.W.codeIn K cd_lerr "lot_error" = true) (k_lerr : PySem.W.keepIn K (.ref f_lerr) = true)
    (a_goes : PySem.W.nsIn K mainGlobals "goes" = some (some (.ref f_goes))) (l_goes : K.lookup f_goes = some ⟨oc_goes, od_goes, .func (PySem.W.fnOf "goes" "goes" (defArgs s_goes) (defBody s_goes) (defScope s_goes) .none kV_goes dc_goes pm_goes an_goes cd_goes ct_goes), sl_goes⟩) (c_goes : PySem.W.codeIn K cd_goes "goes" = true) (k_goes : PySem.W.keepIn K (.ref f_goes) = true)
    (a_ispl : PySem.W.nsIn K mainGlobals "is_place" = some (some (.ref f_ispl))) (l_ispl : K.lookup f_ispl = some ⟨oc_ispl, od_ispl, .func (PySem.W.fnOf "is_place" "is_place" (defArgs s_ispl) (defBody s_ispl) (defScope s_ispl) .none kV_ispl dc_ispl pm_ispl an_ispl cd_ispl ct_ispl), sl_ispl⟩) (c_ispl : PySem.W.codeIn K cd_ispl "is_place" = true) (k_ispl : PySem.W.keepIn K (.ref f_ispl) = true)
    (a_gnums : PySem.W.nsIn K mainGlobals "going_numbers" = some (some (.ref f_gnums))) (l_gnums : K.lookup f_gnums = some ⟨oc_gnums, od_gnums, .func (PySem.W.fnOf "going_numbers" "going_numbers" (defArgs s_gnums) (defBody s_gnums) (defScope s_gnums) .none kV_gnums dc_gnums pm_gnums an_gnums cd_gnums ct_gnums), sl_gnums⟩) (c_gnums : PySem.W.codeIn K cd_gnums "going_numbers" = true) (k_gnums : PySem.W.keepIn K (.ref f_gnums) = true)
    (a_gmany : PySem.W.nsIn K mainGlobals "going_many" = some (some (.ref f_gmany))) (l_gmany : K.lookup f_gmany = some ⟨oc_gmany, od_gmany, .func (PySem.W.fnOf "going_many" "going_many" (defArgs s_gmany) (defBody s_gmany) (defScope s_gmany) .none kV_gmany dc_gmany pm_gmany an_gmany cd_gmany ct_gmany), sl_gmany⟩) (c_gmany : PySem.W.codeIn K cd_gmany "going_many" = true) (k_gmany : PySem.W.keepIn K (.ref f_gmany) = true)
    (a_gcount : PySem.W.nsIn K mainGlobals "going_count" = some (some (.ref f_gcount))) (l_gcount : K.lookup f_gcount = some ⟨oc_gcount, od_gcount, .func (PySem.W.fnOf "going_count" "going_count" (defArgs s_gcount) (defBody s_gcount) (defScope s_gcount) .none kV_gcount dc_gcount pm_gcount an_gcount cd_gcount ct_gcount), sl_gcount⟩) (c_gcount : PySem.W.codeIn K cd_gcount "going_count" = true) (k_gcount : PySem.W.keepIn K (.ref f_gcount) = true)
    (a_gat : PySem.W.nsIn K mainGlobals "going_at" = some (some (.ref f_gat))) (l_gat : K.lookup f_gat = some ⟨oc_gat, od_gat, .func (PySem.W.fnOf "going_at" "going_at" (defArgs s_gat) (defBody s_gat) (defScope s_gat) .none kV_gat dc_gat pm_gat an_gat cd_gat ct_gat), sl_gat⟩) (c_gat : PySem.W.codeIn K cd_gat "going_at" = true) (k_gat : PySem.W.keepIn K (.ref f_gat) = true)
    (a_gnum : PySem.W.nsIn K mainGlobals "going_number" = some (some (.ref f_gnum))) (l_gnum : K.lookup f_gnum = some ⟨oc_gnum, od_gnum, .func (PySem.W.fnOf "going_number" "going_number" (defArgs s_gnum) (defBody s_gnum) (defScope s_gnum) .none kV_gnum dc_gnum pm_gnum an_gnum cd_gnum ct_gnum), sl_gnum⟩) (c_gnum : PySem.W.codeIn K cd_gnum "going_number" = true) (k_gnum : PySem.W.keepIn K (.ref f_gnum) = true)
    (a_lbag : PySem.W.nsIn K mainGlobals "_law_bag" = some (some (.ref f_lbag))) (l_lbag : K.lookup f_lbag = some ⟨oc_lbag, od_lbag, .func (PySem.W.fnOf "_law_bag" "_law_bag" (defArgs s_lbag) (defBody s_lbag) (defScope s_lbag) .none kV_lbag dc_lbag pm_lbag an_lbag cd_lbag ct_lbag), sl_lbag⟩) (c_lbag : PySem.W.codeIn K cd_lbag "_law_bag" = true) (k_lbag : PySem.W.keepIn K (.ref f_lbag) = true)
    (a_ldraw : PySem.W.nsIn K mainGlobals "_law_draw" = some (some (.ref f_ldraw))) (l_ldraw : K.lookup f_ldraw = some ⟨oc_ldraw, od_ldraw, .func (PySem.W.fnOf "_law_draw" "_law_draw" (defArgs s_ldraw) (defBody s_ldraw) (defScope s_ldraw) .none kV_ldraw dc_ldraw pm_ldraw an_ldraw cd_ldraw ct_ldraw), sl_ldraw⟩) (c_ldraw : PySem.W.codeIn K cd_ldraw "_law_draw" = true) (k_ldraw : PySem.W.keepIn K (.ref f_ldraw) = true)
    (a_lpick : PySem.W.nsIn K mainGlobals "_law_pick" = some (some (.ref f_lpick))) (l_lpick : K.lookup f_lpick = some ⟨oc_lpick, od_lpick, .func (PySem.W.fnOf "_law_pick" "_law_pick" (defArgs s_lpick) (defBody s_lpick) (defScope s_lpick) .none kV_lpick dc_lpick pm_lpick an_lpick cd_lpick ct_lpick), sl_lpick⟩) (c_lpick : PySem.W.codeIn K cd_lpick "_law_pick" = true) (k_lpick : PySem.W.keepIn K (.ref f_lpick) = true)
    (a_lmixed : PySem.W.nsIn K mainGlobals "_law_mixed" = some (some (.ref f_lmixed))) (l_lmixed : K.lookup f_lmixed = some ⟨oc_lmixed, od_lmixed, .func (PySem.W.fnOf "_law_mixed" "_law_mixed" (defArgs s_lmixed) (defBody s_lmixed) (defScope s_lmixed) .none kV_lmixed dc_lmixed pm_lmixed an_lmixed cd_lmixed ct_lmixed), sl_lmixed⟩) (c_lmixed : PySem.W.codeIn K cd_lmixed "_law_mixed" = true) (k_lmixed : PySem.W.keepIn K (.ref f_lmixed) = true)
    (a_lbuttons : PySem.W.nsIn K mainGlobals "_law_buttons" = some (some (.ref f_lbuttons))) (l_lbuttons : K.lookup f_lbuttons = some ⟨oc_lbuttons, od_lbuttons, .func (PySem.W.fnOf "_law_buttons" "_law_buttons" (defArgs s_lbuttons) (defBody s_lbuttons) (defScope s_lbuttons) .none kV_lbuttons dc_lbuttons pm_lbuttons an_lbuttons cd_lbuttons ct_lbuttons), sl_lbuttons⟩) (c_lbuttons : PySem.W.codeIn K cd_lbuttons "_law_buttons" = true) (k_lbuttons : PySem.W.keepIn K (.ref f_lbuttons) = true)
    (a_ltree : PySem.W.nsIn K mainGlobals "_law_tree" = some (some (.ref f_ltree))) (l_ltree : K.lookup f_ltree = some ⟨oc_ltree, od_ltree, .func (PySem.W.fnOf "_law_tree" "_law_tree" (defArgs s_ltree) (defBody s_ltree) (defScope s_ltree) .none kV_ltree dc_ltree pm_ltree an_ltree cd_ltree ct_ltree), sl_ltree⟩) (c_ltree : PySem.W.codeIn K cd_ltree "_law_tree" = true) (k_ltree : PySem.W.keepIn K (.ref f_ltree) = true)
    (a_lheld : PySem.W.nsIn K mainGlobals "_law_held" = some (some (.ref f_lheld))) (l_lheld : K.lookup f_lheld = some ⟨oc_lheld, od_lheld, .func (PySem.W.fnOf "_law_held" "_law_held" (defArgs s_lheld) (defBody s_lheld) (defScope s_lheld) .none kV_lheld dc_lheld pm_lheld an_lheld cd_lheld ct_lheld), sl_lheld⟩) (c_lheld : PySem.W.codeIn K cd_lheld "_law_held" = true) (k_lheld : PySem.W.keepIn K (.ref f_lheld) = true)
    (a_levery : PySem.W.nsIn K mainGlobals "_law_every" = some (some (.ref f_levery))) (l_levery : K.lookup f_levery = some ⟨oc_levery, od_levery, .func (PySem.W.fnOf "_law_every" "_law_every" (defArgs s_levery) (defBody s_levery) (defScope s_levery) .none kV_levery dc_levery pm_levery an_levery cd_levery ct_levery), sl_levery⟩) (c_levery : PySem.W.codeIn K cd_levery "_law_every" = true) (k_levery : PySem.W.keepIn K (.ref f_levery) = true)
    (a_lwords : PySem.W.nsIn K mainGlobals "_law_words" = some (some (.ref f_lwords))) (l_lwords : K.lookup f_lwords = some ⟨oc_lwords, od_lwords, .func (PySem.W.fnOf "_law_words" "_law_words" (defArgs s_lwords) (defBody s_lwords) (defScope s_lwords) .none kV_lwords dc_lwords pm_lwords an_lwords cd_lwords ct_lwords), sl_lwords⟩) (c_lwords : PySem.W.codeIn K cd_lwords "_law_words" = true) (k_lwords : PySem.W.keepIn K (.ref f_lwords) = true)
    (a_lgoes : PySem.W.nsIn K mainGlobals "_law_goes" = some (some (.ref f_lgoes))) (l_lgoes : K.lookup f_lgoes = some ⟨oc_lgoes, od_lgoes, .func (PySem.W.fnOf "_law_goes" "_law_goes" (defArgs s_lgoes) (defBody s_lgoes) (defScope s_lgoes) .none kV_lgoes dc_lgoes pm_lgoes an_lgoes cd_lgoes ct_lgoes), sl_lgoes⟩) (c_lgoes : PySem.W.codeIn K cd_lgoes "_law_goes" = true) (k_lgoes : PySem.W.keepIn K (.ref f_lgoes) = true)
    (a_lsides : PySem.W.nsIn K mainGlobals "_law_sides" = some (some (.ref f_lsides))) (l_lsides : K.lookup f_lsides = some ⟨oc_lsides, od_lsides, .func (PySem.W.fnOf "_law_sides" "_law_sides" (defArgs s_lsides) (defBody s_lsides) (defScope s_lsides) .none kV_lsides dc_lsides pm_lsides an_lsides cd_lsides ct_lsides), sl_lsides⟩) (c_lsides : PySem.W.codeIn K cd_lsides "_law_sides" = true) (k_lsides : PySem.W.keepIn K (.ref f_lsides) = true)
    (a_lgmany : PySem.W.nsIn K mainGlobals "_law_going_many" = some (some (.ref f_lgmany))) (l_lgmany : K.lookup f_lgmany = some ⟨oc_lgmany, od_lgmany, .func (PySem.W.fnOf "_law_going_many" "_law_going_many" (defArgs s_lgmany) (defBody s_lgmany) (defScope s_lgmany) .none kV_lgmany dc_lgmany pm_lgmany an_lgmany cd_lgmany ct_lgmany), sl_lgmany⟩) (c_lgmany : PySem.W.codeIn K cd_lgmany "_law_going_many" = true) (k_lgmany : PySem.W.keepIn K (.ref f_lgmany) = true)
    (a_lodds : PySem.W.nsIn K mainGlobals "_law_odds" = some (some (.ref f_lodds))) (l_lodds : K.lookup f_lodds = some ⟨oc_lodds, od_lodds, .func (PySem.W.fnOf "_law_odds" "_law_odds" (defArgs s_lodds) (defBody s_lodds) (defScope s_lodds) .none kV_lodds dc_lodds pm_lodds an_lodds cd_lodds ct_lodds), sl_lodds⟩) (c_lodds : PySem.W.codeIn K cd_lodds "_law_odds" = true) (k_lodds : PySem.W.keepIn K (.ref f_lodds) = true)
    (a_llot : PySem.W.nsIn K mainGlobals "_law_lot" = some (some (.ref f_llot))) (l_llot : K.lookup f_llot = some ⟨oc_llot, od_llot, .func (PySem.W.fnOf "_law_lot" "_law_lot" (defArgs s_llot) (defBody s_llot) (defScope s_llot) .none kV_llot dc_llot pm_llot an_llot cd_llot ct_llot), sl_llot⟩) (c_llot : PySem.W.codeIn K cd_llot "_law_lot" = true) (k_llot : PySem.W.keepIn K (.ref f_llot) = true)
    (a_ltold : PySem.W.nsIn K mainGlobals "_law_told" = some (some (.ref f_ltold))) (l_ltold : K.lookup f_ltold = some ⟨oc_ltold, od_ltold, .func (PySem.W.fnOf "_law_told" "_law_told" (defArgs s_ltold) (defBody s_ltold) (defScope s_ltold) .none kV_ltold dc_ltold pm_ltold an_ltold cd_ltold ct_ltold), sl_ltold⟩) (c_ltold : PySem.W.codeIn K cd_ltold "_law_told" = true) (k_ltold : PySem.W.keepIn K (.ref f_ltold) = true)
    (a_lnumber : PySem.W.nsIn K mainGlobals "_law_number" = some (some (.ref f_lnumber))) (l_lnumber : K.lookup f_lnumber = some ⟨oc_lnumber, od_lnumber, .func (PySem.W.fnOf "_law_number" "_law_number" (defArgs s_lnumber) (defBody s_lnumber) (defScope s_lnumber) .none kV_lnumber dc_lnumber pm_lnumber an_lnumber cd_lnumber ct_lnumber), sl_lnumber⟩) (c_lnumber : PySem.W.codeIn K cd_lnumber "_law_number" = true) (k_lnumber : PySem.W.keepIn K (.ref f_lnumber) = true)
    (a_lodd : PySem.W.nsIn K mainGlobals "_law_is_odd_refused" = some (some (.ref f_lodd))) (l_lodd : K.lookup f_lodd = some ⟨oc_lodd, od_lodd, .func (PySem.W.fnOf "_law_is_odd_refused" "_law_is_odd_refused" (defArgs s_lodd) (defBody s_lodd) (defScope s_lodd) .none kV_lodd dc_lodd pm_lodd an_lodd cd_lodd ct_lodd), sl_lodd⟩) (c_lodd : PySem.W.codeIn K cd_lodd "_law_is_odd_refused" = true) (k_lodd : PySem.W.keepIn K (.ref f_lodd) = true)
    (a_lcounted : PySem.W.nsIn K mainGlobals "_law_are_counted" = some (some (.ref f_lcounted))) (l_lcounted : K.lookup f_lcounted = some ⟨oc_lcounted, od_lcounted, .func (PySem.W.fnOf "_law_are_counted" "_law_are_counted" (defArgs s_lcounted) (defBody s_lcounted) (defScope s_lcounted) .none kV_lcounted dc_lcounted pm_lcounted an_lcounted cd_lcounted ct_lcounted), sl_lcounted⟩) (c_lcounted : PySem.W.codeIn K cd_lcounted "_law_are_counted" = true) (k_lcounted : PySem.W.keepIn K (.ref f_lcounted) = true)
    (a_lwide : PySem.W.nsIn K mainGlobals "_law_is_widest" = some (some (.ref f_lwide))) (l_lwide : K.lookup f_lwide = some ⟨oc_lwide, od_lwide, .func (PySem.W.fnOf "_law_is_widest" "_law_is_widest" (defArgs s_lwide) (defBody s_lwide) (defScope s_lwide) .none kV_lwide dc_lwide pm_lwide an_lwide cd_lwide ct_lwide), sl_lwide⟩) (c_lwide : PySem.W.codeIn K cd_lwide "_law_is_widest" = true) (k_lwide : PySem.W.keepIn K (.ref f_lwide) = true)
    (a_llaw : PySem.W.nsIn K mainGlobals "law" = some (some (.ref f_llaw))) (l_llaw : K.lookup f_llaw = some ⟨oc_llaw, od_llaw, .func (PySem.W.fnOf "law" "law" (defArgs s_llaw) (defBody s_llaw) (defScope s_llaw) .none kV_llaw dc_llaw pm_llaw an_llaw cd_llaw ct_llaw), sl_llaw⟩) (c_llaw : PySem.W.codeIn K cd_llaw "law" = true) (k_llaw : PySem.W.keepIn K (.ref f_llaw) = true)
    (n_isinstance : PySem.W.nsIn K mainGlobals "isinstance" = some none)
    (n_len : PySem.W.nsIn K mainGlobals "len" = some none)
    (n_sum : PySem.W.nsIn K mainGlobals "sum" = some none)
    (n_abs : PySem.W.nsIn K mainGlobals "abs" = some none)
    (n_min : PySem.W.nsIn K mainGlobals "min" = some none)
    (n_sorted : PySem.W.nsIn K mainGlobals "sorted" = some none)
    (n_repr : PySem.W.nsIn K mainGlobals "repr" = some none)
    (n_int : PySem.W.nsIn K mainGlobals "int" = some none)
    (n_bool : PySem.W.nsIn K mainGlobals "bool" = some none)
    (n_str : PySem.W.nsIn K mainGlobals "str" = some none)
    (n_tuple : PySem.W.nsIn K mainGlobals "tuple" = some none)
    (n_list : PySem.W.nsIn K mainGlobals "list" = some none)
    (n_set : PySem.W.nsIn K mainGlobals "set" = some none)
    (n_range : PySem.W.nsIn K mainGlobals "range" = some none)
    (n_enumerate : PySem.W.nsIn K mainGlobals "enumerate" = some none)
    (n_zip : PySem.W.nsIn K mainGlobals "zip" = some none)
    (n_mb : PySem.W.nsIn K mainGlobals "MAX_BUTTON" = some (some (.int 99 tB))) (n_ml : PySem.W.nsIn K mainGlobals "MAX_LOT" = some (some (.int 100 tL)))
    (aU : PySem.W.nsIn K mainGlobals "Unfit" = some (some (.ref U))) (aT : PySem.W.nsIn K mainGlobals "TripError" = some (some (.ref TE)))
    (xU : K.lookup U = some (excClassObj nm q U N bs bm true sn sub ab col dd m0 m1 m2 m3 m5 "ValueError.__new__")) (vU : PySem.HandSPX.refsVE bm = true)
    (sa : PySem.W.findIn K (.ref U) "__setattr__" = some (some (.builtin "object.__setattr__"))) (eU : PySem.W.subIn K (.ref U) (.type "BaseException") = some true) (tU : PySem.W.typeIn K (.ref U) = some (.type "type")) (kU : PySem.W.keepIn K (.ref U) = true)
    (iU : PySem.W.isClsIn K U = true) (sU : PySem.W.subIn K (.ref U) (.ref U) = some true) (iniU : PySem.W.findIn K (.ref U) "__init__" = some (some (.ref fI))) (tI : PySem.W.typeIn K (.ref fI) = some (.type "function"))
    (l_ini : K.lookup fI = some ⟨oc_ini, od_ini, .func (PySem.W.fnOf "__init__" "Unfit.__init__" (defArgs s_ini) (defBody s_ini) (defScope s_ini) .none kV_ini dc_ini pm_ini an_ini cd_ini ct_ini), sl_ini⟩) (c_ini : PySem.W.codeIn K cd_ini "Unfit.__init__" = true) (k_ini : PySem.W.keepIn K (.ref fI) = true)
    (rT : PySem.W.readsIn K TE (.type "type") = true) (gaT : PySem.W.specialIn K (.ref TE) "__getattribute__" = some (some (.builtin "type.__getattribute__"))) (inT : PySem.W.findCls K (.ref TE) (.type "type") "__init__" = some (.val (.builtin "ValueError.__init__")))
    : LawRuns P w K mg 63 fa := by
  have e := hfa.symm.trans (PySem.W.mg_of X G a_llaw)
  cases e
  have T : Txt K mg := ⟨PySem.W.mg_none_of X G n_isinstance, PySem.W.mg_none_of X G n_len, PySem.W.mg_none_of X G n_sum, PySem.W.mg_none_of X G n_abs, PySem.W.mg_none_of X G n_min, PySem.W.mg_none_of X G n_sorted, PySem.W.mg_none_of X G n_repr, PySem.W.mg_none_of X G n_int, PySem.W.mg_none_of X G n_bool, PySem.W.mg_none_of X G n_str, PySem.W.mg_none_of X G n_tuple, PySem.W.mg_none_of X G n_list, PySem.W.mg_none_of X G n_set, PySem.W.mg_none_of X G n_range, PySem.W.mg_none_of X G n_enumerate, PySem.W.mg_none_of X G n_zip, ⟨_, PySem.W.mg_of X G n_mb⟩, ⟨_, PySem.W.mg_of X G n_ml⟩⟩
  exact all_runs T (has_mk X G a_isint l_isint c_isint k_isint) (has_mk X G a_isbtn l_isbtn c_isbtn k_isbtn) (has_mk X G a_istrip l_istrip c_istrip k_istrip) (has_mk X G a_bio l_bio c_bio k_bio) (has_mk X G a_bof l_bof c_bof k_bof) (has_mk X G a_lerr l_lerr c_lerr k_lerr) (has_mk X G a_goes l_goes c_goes k_goes) (has_mk X G a_ispl l_ispl c_ispl k_ispl) (has_mk X G a_gnums l_gnums c_gnums k_gnums) (has_mk X G a_gmany l_gmany c_gmany k_gmany) (has_mk X G a_gcount l_gcount c_gcount k_gcount) (has_mk X G a_gat l_gat c_gat k_gat) (has_mk X G a_gnum l_gnum c_gnum k_gnum) (has_mk X G a_lbag l_lbag c_lbag k_lbag) (has_mk X G a_ldraw l_ldraw c_ldraw k_ldraw) (has_mk X G a_lpick l_lpick c_lpick k_lpick) (has_mk X G a_lmixed l_lmixed c_lmixed k_lmixed) (has_mk X G a_lbuttons l_lbuttons c_lbuttons k_lbuttons) (has_mk X G a_ltree l_ltree c_ltree k_ltree) (has_mk X G a_lheld l_lheld c_lheld k_lheld) (has_mk X G a_levery l_levery c_levery k_levery) (has_mk X G a_lwords l_lwords c_lwords k_lwords) (has_mk X G a_lgoes l_lgoes c_lgoes k_lgoes) (has_mk X G a_lsides l_lsides c_lsides k_lsides) (has_mk X G a_lgmany l_lgmany c_lgmany k_lgmany) (has_mk X G a_lodds l_lodds c_lodds k_lodds) (has_mk X G a_llot l_llot c_llot k_llot) (has_mk X G a_ltold l_ltold c_ltold k_ltold) (has_mk X G a_lnumber l_lnumber c_lnumber k_lnumber) (has_mk X G a_lodd l_lodd c_lodd k_lodd) (has_mk X G a_lcounted l_lcounted c_lcounted k_lcounted) (has_mk X G a_lwide l_lwide c_lwide k_lwide) ⟨_, fun_mk l_llaw c_llaw k_llaw⟩ ⟨_, fun_mk l_ini c_ini k_ini⟩ ⟨PySem.W.mg_of X G aT, rT, gaT, inT⟩ ⟨⟨_, _, _, _, _, _, _, _, _, _, _, _, _, _, _, xU, vU⟩, sa, eU, tU, kU⟩ (PySem.W.mg_of X G aU) iniU tI (exm_own eU iU tU sU)
end K19
open PySem PySem.W PyProof.Rows
set_option maxRecDepth 100000 in
set_option maxHeartbeats 0 in
theorem PySem.Challenge.cw_onescale_k19_whole_lots_that_go_by_numbe_holds : PySem.Challenge.rw_onescale_k19_whole_lots_that_go_by_numbe.Holds := by
  w_on; o_law; k_head; (case hw => w_witness2)
  k_fill
  refine K19.law_end (l := PySem.Challenge.rw_onescale_k19_whole_lots_that_go_by_numbe) (n := 63) rfl (by decide) rfl (fun w h Y => PySem.W.kIn_of Y) ?F
  case F =>
    intro w mg fa h KX G hmg
    refine' K19.all_mk KX G hmg ?a_isint ?l_isint ?c_isint ?k_isint ?a_isbtn ?l_isbtn ?c_isbtn ?k_isbtn ?a_istrip ?l_istrip ?c_istrip ?k_istrip ?a_bio ?l_bio ?c_bio ?k_bio ?a_bof ?l_bof ?c_bof ?k_bof ?a_lerr ?l_lerr ?c_lerr ?k_lerr ?a_goes ?l_goes ?c_goes ?k_goes ?a_ispl ?l_ispl ?c_ispl ?k_ispl ?a_gnums ?l_gnums ?c_gnums ?k_gnums ?a_gmany ?l_gmany ?c_gmany ?k_gmany ?a_gcount ?l_gcount ?c_gcount ?k_gcount ?a_gat ?l_gat ?c_gat ?k_gat ?a_gnum ?l_gnum ?c_gnum ?k_gnum ?a_lbag ?l_lbag ?c_lbag ?k_lbag ?a_ldraw ?l_ldraw ?c_ldraw ?k_ldraw ?a_lpick ?l_lpick ?c_lpick ?k_lpick ?a_lmixed ?l_lmixed ?c_lmixed ?k_lmixed ?a_lbuttons ?l_lbuttons ?c_lbuttons ?k_lbuttons ?a_ltree ?l_ltree ?c_ltree ?k_ltree ?a_lheld ?l_lheld ?c_lheld ?k_lheld ?a_levery ?l_levery ?c_levery ?k_levery ?a_lwords ?l_lwords ?c_lwords ?k_lwords ?a_lgoes ?l_lgoes ?c_lgoes ?k_lgoes ?a_lsides ?l_lsides ?c_lsides ?k_lsides ?a_lgmany ?l_lgmany ?c_lgmany ?k_lgmany ?a_lodds ?l_lodds ?c_lodds ?k_lodds ?a_llot ?l_llot ?c_llot ?k_llot ?a_ltold ?l_ltold ?c_ltold ?k_ltold ?a_lnumber ?l_lnumber ?c_lnumber ?k_lnumber ?a_lodd ?l_lodd ?c_lodd ?k_lodd ?a_lcounted ?l_lcounted ?c_lcounted ?k_lcounted ?a_lwide ?l_lwide ?c_lwide ?k_lwide ?a_llaw ?l_llaw ?c_llaw ?k_llaw ?n_isinstance ?n_len ?n_sum ?n_abs ?n_min ?n_sorted ?n_repr ?n_int ?n_bool ?n_str ?n_tuple ?n_list ?n_set ?n_range ?n_enumerate ?n_zip ?n_mb ?n_ml ?aU ?aT ?xU ?vU ?sa ?eU ?tU ?kU ?iU ?sU ?iniU ?tI ?l_ini ?c_ini ?k_ini ?rT ?gaT ?inT
    (case a_isint => k_is)
    (case l_isint => k_is)
    (case c_isint => k_is)
    (case k_isint => k_is)
    (case a_isbtn => k_is)
    (case l_isbtn => k_is)
    (case c_isbtn => k_is)
    (case k_isbtn => k_is)
    (case a_istrip => k_is)
    (case l_istrip => k_is)
    (case c_istrip => k_is)
    (case k_istrip => k_is)
    (case a_bio => k_is)
    (case l_bio => k_is)
    (case c_bio => k_is)
    (case k_bio => k_is)
    (case a_bof => k_is)
    (case l_bof => k_is)
    (case c_bof => k_is)
    (case k_bof => k_is)
    (case a_lerr => k_is)
    (case l_lerr => k_is)
    (case c_lerr => k_is)
    (case k_lerr => k_is)
    (case a_goes => k_is)
    (case l_goes => k_is)
    (case c_goes => k_is)
    (case k_goes => k_is)
    (case a_ispl => k_is)
    (case l_ispl => k_is)
    (case c_ispl => k_is)
    (case k_ispl => k_is)
    (case a_gnums => k_is)
    (case l_gnums => k_is)
    (case c_gnums => k_is)
    (case k_gnums => k_is)
    (case a_gmany => k_is)
    (case l_gmany => k_is)
    (case c_gmany => k_is)
    (case k_gmany => k_is)
    (case a_gcount => k_is)
    (case l_gcount => k_is)
    (case c_gcount => k_is)
    (case k_gcount => k_is)
    (case a_gat => k_is)
    (case l_gat => k_is)
    (case c_gat => k_is)
    (case k_gat => k_is)
    (case a_gnum => k_is)
    (case l_gnum => k_is)
    (case c_gnum => k_is)
    (case k_gnum => k_is)
    (case a_lbag => k_is)
    (case l_lbag => k_is)
    (case c_lbag => k_is)
    (case k_lbag => k_is)
    (case a_ldraw => k_is)
    (case l_ldraw => k_is)
    (case c_ldraw => k_is)
    (case k_ldraw => k_is)
    (case a_lpick => k_is)
    (case l_lpick => k_is)
    (case c_lpick => k_is)
    (case k_lpick => k_is)
    (case a_lmixed => k_is)
    (case l_lmixed => k_is)
    (case c_lmixed => k_is)
    (case k_lmixed => k_is)
    (case a_lbuttons => k_is)
    (case l_lbuttons => k_is)
    (case c_lbuttons => k_is)
    (case k_lbuttons => k_is)
    (case a_ltree => k_is)
    (case l_ltree => k_is)
    (case c_ltree => k_is)
    (case k_ltree => k_is)
    (case a_lheld => k_is)
    (case l_lheld => k_is)
    (case c_lheld => k_is)
    (case k_lheld => k_is)
    (case a_levery => k_is)
    (case l_levery => k_is)
    (case c_levery => k_is)
    (case k_levery => k_is)
    (case a_lwords => k_is)
    (case l_lwords => k_is)
    (case c_lwords => k_is)
    (case k_lwords => k_is)
    (case a_lgoes => k_is)
    (case l_lgoes => k_is)
    (case c_lgoes => k_is)
    (case k_lgoes => k_is)
    (case a_lsides => k_is)
    (case l_lsides => k_is)
    (case c_lsides => k_is)
    (case k_lsides => k_is)
    (case a_lgmany => k_is)
    (case l_lgmany => k_is)
    (case c_lgmany => k_is)
    (case k_lgmany => k_is)
    (case a_lodds => k_is)
    (case l_lodds => k_is)
    (case c_lodds => k_is)
    (case k_lodds => k_is)
    (case a_llot => k_is)
    (case l_llot => k_is)
    (case c_llot => k_is)
    (case k_llot => k_is)
    (case a_ltold => k_is)
    (case l_ltold => k_is)
    (case c_ltold => k_is)
    (case k_ltold => k_is)
    (case a_lnumber => k_is)
    (case l_lnumber => k_is)
    (case c_lnumber => k_is)
    (case k_lnumber => k_is)
    (case a_lodd => k_is)
    (case l_lodd => k_is)
    (case c_lodd => k_is)
    (case k_lodd => k_is)
    (case a_lcounted => k_is)
    (case l_lcounted => k_is)
    (case c_lcounted => k_is)
    (case k_lcounted => k_is)
    (case a_lwide => k_is)
    (case l_lwide => k_is)
    (case c_lwide => k_is)
    (case k_lwide => k_is)
    (case a_llaw => k_is)
    (case l_llaw => k_is)
    (case c_llaw => k_is)
    (case k_llaw => k_is)
    (case n_isinstance => k_is)
    (case n_len => k_is)
    (case n_sum => k_is)
    (case n_abs => k_is)
    (case n_min => k_is)
    (case n_sorted => k_is)
    (case n_repr => k_is)
    (case n_int => k_is)
    (case n_bool => k_is)
    (case n_str => k_is)
    (case n_tuple => k_is)
    (case n_list => k_is)
    (case n_set => k_is)
    (case n_range => k_is)
    (case n_enumerate => k_is)
    (case n_zip => k_is)
    (case n_mb => k_is)
    (case n_ml => k_is)
    (case aU => k_is)
    (case aT => k_is)
    (case xU => k_is)
    (case vU => decide +kernel)
    (case sa => k_is)
    (case eU => k_is)
    (case tU => k_is)
    (case kU => k_is)
    (case iU => k_is)
    (case sU => first | rfl | k_is)
    (case iniU => k_is)
    (case tI => k_is)
    (case l_ini => k_is)
    (case c_ini => k_is)
    (case k_ini => k_is)
    (case rT => k_is)
    (case gaT => k_is)
    (case inT => k_is)
