import PyProof.Rows.All
import Wide.All
import OpenK.AllK
import Wide.FinOn
import HandS.ForMost
import HandS.IsInst
import HandS.Style
import HandS.TupMul
import HandS.TupAny
import HandS.DictComp
import HandS.TupSets
import HandS.Wide
import HandS.SetFor
import KE.GoesMore
import KE.GoesEnum
import HandS.Conv
import PySem.Challenge.RW_sharewell_k45_whole_least_trees
set_option Elab.async false
set_option linter.all false
set_option maxRecDepth 100000
set_option maxHeartbeats 8000000
/-! M0: the mathematics: growing a tree by the cheapest wires; the least sum. Plain Lean. -/
namespace SWM
abbrev Ed := Int × Int × Int
def R (n : Nat) (x : Int) : Prop := 0 ≤ x ∧ x ≤ (n : Int)
instance (n : Nat) (x : Int) : Decidable (R n x) := inferInstanceAs (Decidable (_ ∧ _))
/-- the mark of a place -/
def mk (m : List Int) (a : Int) : Int := m.getD a.toNat 0
def hiOf (x y : Int) : Int := if y > x then y else x
def loOf (x y : Int) : Int := if y < x then y else x
def rel (m : List Int) (a b : Int) : List Int := m.map fun x => if x = hiOf (mk m a) (mk m b) then loOf (mk m a) (mk m b) else x
/-- the marks behind, the wires taken -/
def run (m : List Int) : List Ed → List Int × List Ed
  | [] => (m, [])
  | e :: r => if mk m e.2.1 ≠ mk m e.2.2 then ((run (rel m e.2.1 e.2.2) r).1, e :: (run (rel m e.2.1 e.2.2) r).2) else run m r
theorem run_nil (m : List Int) : run m [] = (m, []) := rfl
theorem run_take {m : List Int} {e : Ed} {r : List Ed} (h : mk m e.2.1 ≠ mk m e.2.2) : run m (e :: r) = ((run (rel m e.2.1 e.2.2) r).1, e :: (run (rel m e.2.1 e.2.2) r).2) := by
  rw [run, if_pos h]
theorem run_skip {m : List Int} {e : Ed} {r : List Ed} (h : mk m e.2.1 = mk m e.2.2) : run m (e :: r) = run m r := by
  rw [run, if_neg (fun q => q h)]
/-- marks of n + 1 places, each a place -/
structure Ok (n : Nat) (m : List Int) : Prop where
  len : m.length = n + 1
  rng : ∀ x ∈ m, R n x
theorem lohi (x y : Int) : (loOf x y = x ∧ hiOf x y = y) ∨ (loOf x y = y ∧ hiOf x y = x) := by
  unfold loOf hiOf
  by_cases h : y < x
  · right
    rw [if_pos h, if_neg (by omega)]
    exact ⟨rfl, rfl⟩
  · left
    rw [if_neg h]
    by_cases h2 : y > x
    · rw [if_pos h2]
      exact ⟨rfl, rfl⟩
    · rw [if_neg h2]
      exact ⟨rfl, by omega⟩
theorem mk_get {n : Nat} {m : List Int} (o : Ok n m) {a : Int} (ha : R n a) : ∃ h : a.toNat < m.length, mk m a = m[a.toNat] := by
  have h : a.toNat < m.length := by
    rw [o.len]
    have := ha.1
    have := ha.2
    omega
  refine ⟨h, ?_⟩
  unfold mk
  rw [List.getD_eq_getElem?_getD, List.getElem?_eq_getElem h]
  rfl
theorem mk_mem {n : Nat} {m : List Int} (o : Ok n m) {a : Int} (ha : R n a) : mk m a ∈ m := by
  obtain ⟨h, e⟩ := mk_get o ha
  rw [e]
  exact List.getElem_mem h
theorem mk_R {n : Nat} {m : List Int} (o : Ok n m) {a : Int} (ha : R n a) : R n (mk m a) := o.rng _ (mk_mem o ha)
theorem ok_rel {n : Nat} {m : List Int} (o : Ok n m) {a b : Int} (ha : R n a) (hb : R n b) : Ok n (rel m a b) := by
  refine ⟨by unfold rel; rw [List.length_map, o.len], fun x hx => ?_⟩
  unfold rel at hx
  obtain ⟨y, hy, e⟩ := List.mem_map.mp hx
  subst e
  by_cases c : y = hiOf (mk m a) (mk m b)
  · rw [if_pos c]
    rcases lohi (mk m a) (mk m b) with ⟨e, _⟩ | ⟨e, _⟩ <;> rw [e]
    · exact mk_R o ha
    · exact mk_R o hb
  · rw [if_neg c]
    exact o.rng y hy
theorem mk_rel {n : Nat} {m : List Int} (o : Ok n m) {a b : Int} {x : Int} (hx : R n x) : mk (rel m a b) x = if mk m x = hiOf (mk m a) (mk m b) then loOf (mk m a) (mk m b) else mk m x := by
  obtain ⟨h, e⟩ := mk_get o hx
  have h2 : x.toNat < (rel m a b).length := by unfold rel; rw [List.length_map]; exact h
  have e2 : mk (rel m a b) x = (rel m a b)[x.toNat] := by
    show (rel m a b).getD x.toNat 0 = _
    rw [List.getD_eq_getElem?_getD, List.getElem?_eq_getElem h2]
    rfl
  rw [e2, e]
  simp only [rel, List.getElem_map]
/-- behind a joining: the same mark, if the same before, or both of the two joined -/
theorem rel_eq {n : Nat} {m : List Int} (o : Ok n m) {a b x y : Int} (ha : R n a) (hb : R n b) (hx : R n x) (hy : R n y) :
    mk (rel m a b) x = mk (rel m a b) y ↔ (mk m x = mk m y ∨ ((mk m x = mk m a ∨ mk m x = mk m b) ∧ (mk m y = mk m a ∨ mk m y = mk m b))) := by
  rw [mk_rel o hx, mk_rel o hy]
  generalize mk m x = u
  generalize mk m y = v
  rcases lohi (mk m a) (mk m b) with ⟨e1, e2⟩ | ⟨e1, e2⟩ <;> rw [e1, e2] <;> generalize mk m a = p <;> generalize mk m b = q <;> split <;> split <;> omega
theorem rel_keep {n : Nat} {m : List Int} (o : Ok n m) {a b x y : Int} (hx : R n x) (hy : R n y) (h : mk m x = mk m y) : mk (rel m a b) x = mk (rel m a b) y := by
  rw [mk_rel o hx, mk_rel o hy, h]
theorem rel_join {n : Nat} {m : List Int} (o : Ok n m) {a b : Int} (ha : R n a) (hb : R n b) : mk (rel m a b) a = mk (rel m a b) b :=
  (rel_eq o ha hb ha hb).mpr (.inr ⟨.inl rfl, .inr rfl⟩)
/-- the wires lie between places -/
def In (n : Nat) (L : List Ed) : Prop := ∀ e ∈ L, R n e.2.1 ∧ R n e.2.2
theorem In.tail {n : Nat} {e : Ed} {r : List Ed} (h : In n (e :: r)) : In n r := fun x hx => h x (List.mem_cons_of_mem _ hx)
theorem In.head {n : Nat} {e : Ed} {r : List Ed} (h : In n (e :: r)) : R n e.2.1 ∧ R n e.2.2 := h e List.mem_cons_self
theorem run_ok {n : Nat} : ∀ {L : List Ed} {m : List Int}, Ok n m → In n L → Ok n (run m L).1
  | [], _, o, _ => o
  | e :: r, m, o, h => by
    by_cases c : mk m e.2.1 = mk m e.2.2
    · rw [run_skip c]
      exact run_ok o h.tail
    · rw [run_take c]
      exact run_ok (ok_rel o h.head.1 h.head.2) h.tail
theorem run_keep {n : Nat} {x y : Int} (hx : R n x) (hy : R n y) : ∀ {L : List Ed} {m : List Int}, Ok n m → In n L → mk m x = mk m y → mk (run m L).1 x = mk (run m L).1 y
  | [], _, _, _, q => q
  | e :: r, m, o, h, q => by
    by_cases c : mk m e.2.1 = mk m e.2.2
    · rw [run_skip c]
      exact run_keep hx hy o h.tail q
    · rw [run_take c]
      exact run_keep hx hy (ok_rel o h.head.1 h.head.2) h.tail (rel_keep o hx hy q)
theorem run_join {n : Nat} {f : Ed} : ∀ {L : List Ed} {m : List Int}, Ok n m → In n L → f ∈ L → mk (run m L).1 f.2.1 = mk (run m L).1 f.2.2
  | [], _, _, _, q => nomatch q
  | e :: r, m, o, h, q => by
    have hf := h f q
    by_cases c : mk m e.2.1 = mk m e.2.2
    · rw [run_skip c]
      rcases List.mem_cons.mp q with rfl | q
      · exact run_keep hf.1 hf.2 o h.tail c
      · exact run_join o h.tail q
    · rw [run_take c]
      have o2 := ok_rel o h.head.1 h.head.2
      rcases List.mem_cons.mp q with rfl | q
      · exact run_keep hf.1 hf.2 o2 h.tail (rel_join o h.head.1 h.head.2)
      · exact run_join o2 h.tail q
/-- a set of places that does not part what hangs together by the marks -/
def Tied (n : Nat) (m : List Int) (S : Int → Prop) : Prop := ∀ x y, R n x → R n y → mk m x = mk m y → (S x ↔ S y)
def Closed (S : Int → Prop) (t : List Ed) : Prop := ∀ e ∈ t, (S e.2.1 ↔ S e.2.2)
theorem tied_rel {n : Nat} {m : List Int} (o : Ok n m) {a b : Int} (ha : R n a) (hb : R n b) {S : Int → Prop} (h : Tied n m S) (e : S a ↔ S b) : Tied n (rel m a b) S := by
  intro x y hx hy q
  rcases (rel_eq o ha hb hx hy).mp q with q | ⟨q1, q2⟩
  · exact h x y hx hy q
  · have s1 : S x ↔ S a := by
      rcases q1 with q | q
      · exact h x a hx ha q
      · exact (h x b hx hb q).trans e.symm
    have s2 : S y ↔ S a := by
      rcases q2 with q | q
      · exact h y a hy ha q
      · exact (h y b hy hb q).trans e.symm
    exact s1.trans s2.symm
theorem tied_of_rel {n : Nat} {m : List Int} (o : Ok n m) {a b : Int} {S : Int → Prop} (h : Tied n (rel m a b) S) : Tied n m S :=
  fun x y hx hy q => h x y hx hy (rel_keep o hx hy q)
theorem tied_run {n : Nat} {S : Int → Prop} : ∀ {L : List Ed} {m : List Int}, Ok n m → In n L → Tied n m S → Closed S (run m L).2 → Tied n (run m L).1 S
  | [], _, _, _, q, _ => q
  | e :: r, m, o, h, q, k => by
    by_cases c : mk m e.2.1 = mk m e.2.2
    · rw [run_skip c] at k ⊢
      exact tied_run o h.tail q k
    · rw [run_take c] at k ⊢
      exact tied_run (ok_rel o h.head.1 h.head.2) h.tail (tied_rel o h.head.1 h.head.2 q (k e List.mem_cons_self)) fun x hx => k x (List.mem_cons_of_mem _ hx)
/-- the wires and the marks join all places -/
def Sp (n : Nat) (m : List Int) (t : List Ed) : Prop := ∀ S : Int → Prop, Tied n m S → Closed S t → S 0 → ∀ x, R n x → S x
theorem R0 (n : Nat) : R n 0 := ⟨Int.le_refl 0, by omega⟩
/-- all have one mark behind the run -/
theorem sp_one {n : Nat} {m : List Int} {t : List Ed} (o : Ok n m) (h : In n t) (sp : Sp n m t) {x : Int} (hx : R n x) : mk (run m t).1 x = mk (run m t).1 0 := by
  refine sp (fun y => mk (run m t).1 y = mk (run m t).1 0) ?_ ?_ rfl x hx
  · intro y z hy hz q
    have := run_keep hy hz o h q
    show _ = _ ↔ _ = _
    rw [this]
  · intro e he
    have := run_join o h he
    show _ = _ ↔ _ = _
    rw [this]
/-- how many marks -/
def cnt (n : Nat) (m : List Int) : Nat := ((List.range (n + 1)).filter fun (v : Nat) => decide ((v : Int) ∈ m)).length
theorem filter_split {α : Type} [DecidableEq α] (p q : α → Bool) (h : α) : ∀ (l : List α), l.Nodup → h ∈ l → p h = true → q h = false → (∀ x ∈ l, x ≠ h → p x = q x) → (l.filter p).length = (l.filter q).length + 1
  | [], _, hm, _, _, _ => nomatch hm
  | a :: l, nd, hm, hp, hq, hs => by
    rw [List.nodup_cons] at nd
    by_cases c : a = h
    · subst c
      have e : l.filter p = l.filter q := List.filter_congr fun x hx => hs x (List.mem_cons_of_mem _ hx) fun z => nd.1 (z ▸ hx)
      simp only [List.filter_cons, hp, hq, if_true, e, List.length_cons]
      rfl
    · have ih := filter_split p q h l nd.2 (by rcases List.mem_cons.mp hm with z | z; exact absurd z.symm c; exact z) hp hq fun x hx => hs x (List.mem_cons_of_mem _ hx)
      have ea := hs a List.mem_cons_self c
      simp only [List.filter_cons, ea]
      by_cases d : q a = true
      · simp only [d, if_true, List.length_cons, ih]
      · simp only [d, if_false]
        exact ih
theorem cnt_rel {n : Nat} {m : List Int} (o : Ok n m) {a b : Int} (ha : R n a) (hb : R n b) (h : mk m a ≠ mk m b) : cnt n m = cnt n (rel m a b) + 1 := by
  have hh : hiOf (mk m a) (mk m b) ∈ m ∧ loOf (mk m a) (mk m b) ∈ m ∧ loOf (mk m a) (mk m b) ≠ hiOf (mk m a) (mk m b) := by
    rcases lohi (mk m a) (mk m b) with ⟨e1, e2⟩ | ⟨e1, e2⟩ <;> rw [e1, e2]
    · exact ⟨mk_mem o hb, mk_mem o ha, h⟩
    · exact ⟨mk_mem o ha, mk_mem o hb, fun q => h q.symm⟩
  have hr := o.rng _ hh.1
  have mem : ∀ x : Int, x ∈ rel m a b ↔ (x ∈ m ∧ x ≠ hiOf (mk m a) (mk m b)) := by
    intro x
    unfold rel
    rw [List.mem_map]
    constructor
    · rintro ⟨y, hy, e⟩
      by_cases c : y = hiOf (mk m a) (mk m b)
      · rw [if_pos c] at e
        subst e
        exact ⟨hh.2.1, hh.2.2⟩
      · rw [if_neg c] at e
        subst e
        exact ⟨hy, c⟩
    · rintro ⟨hx, c⟩
      exact ⟨x, hx, if_neg c⟩
  have eh : ((hiOf (mk m a) (mk m b)).toNat : Int) = hiOf (mk m a) (mk m b) := by
    have := hr.1
    omega
  unfold cnt
  refine filter_split _ _ (hiOf (mk m a) (mk m b)).toNat _ List.nodup_range ?_ ?_ ?_ ?_
  · rw [List.mem_range]
    have := hr.1
    have := hr.2
    omega
  · rw [decide_eq_true_eq, eh]
    exact hh.1
  · rw [decide_eq_false_iff_not, eh, mem]
    exact fun q => q.2 rfl
  · intro x _ hx
    have hx' : (x : Int) ≠ hiOf (mk m a) (mk m b) := by
      intro q
      rw [← q] at hx
      exact hx (by omega)
    by_cases c : (x : Int) ∈ m
    · rw [decide_eq_true c, decide_eq_true ((mem x).mpr ⟨c, hx'⟩)]
    · rw [decide_eq_false c, decide_eq_false fun q => c ((mem x).mp q).1]
theorem run_cnt {n : Nat} : ∀ {L : List Ed} {m : List Int}, Ok n m → In n L → cnt n (run m L).1 + (run m L).2.length = cnt n m
  | [], _, _, _ => rfl
  | e :: r, m, o, h => by
    by_cases c : mk m e.2.1 = mk m e.2.2
    · rw [run_skip c]
      exact run_cnt o h.tail
    · rw [run_take c]
      have ih := run_cnt (ok_rel o h.head.1 h.head.2) h.tail
      rw [cnt_rel o h.head.1 h.head.2 c]
      show cnt n (run (rel m e.2.1 e.2.2) r).1 + ((run (rel m e.2.1 e.2.2) r).2.length + 1) = _
      omega
theorem cnt_one {n : Nat} {m : List Int} (o : Ok n m) (h : ∀ x, R n x → mk m x = mk m 0) : cnt n m = 1 := by
  have all : ∀ x ∈ m, x = mk m 0 := by
    intro x hx
    obtain ⟨i, hi, e⟩ := List.getElem_of_mem hx
    have hR : R n (i : Int) := by
      rw [o.len] at hi
      exact ⟨by omega, by omega⟩
    obtain ⟨hi2, e2⟩ := mk_get o hR
    have e3 := h (i : Int) hR
    rw [e2] at e3
    rw [← e3, ← e]
    rfl
  have h0 := mk_R o (R0 n)
  have e0 : ((mk m 0).toNat : Int) = mk m 0 := by
    have := h0.1
    omega
  have q : cnt n m = ((List.range (n + 1)).filter fun (v : Nat) => decide (v = (mk m 0).toNat)).length := by
    unfold cnt
    congr 1
    refine List.filter_congr fun x hx => ?_
    by_cases c : (x : Int) ∈ m
    · have := all _ c
      rw [decide_eq_true c, decide_eq_true (by omega)]
    · rw [decide_eq_false c, decide_eq_false]
      intro z
      rw [z, e0] at c
      exact c (mk_mem o (R0 n))
  rw [q]
  have s := filter_split (fun v => decide (v = (mk m 0).toNat)) (fun _ => false) (mk m 0).toNat (List.range (n + 1)) List.nodup_range (by
    rw [List.mem_range]
    have := h0.1
    have := h0.2
    omega) (by simp) rfl (by intro x _ hx; simp [hx])
  rw [s]
  simp
theorem sp_len {n : Nat} {m : List Int} {t : List Ed} (o : Ok n m) (h : In n t) (sp : Sp n m t) : 1 + (run m t).2.length = cnt n m := by
  have := run_cnt o h
  rw [cnt_one (run_ok o h) fun x hx => sp_one o h sp hx] at this
  exact this

/-! ### the least sum -/
def wsum (t : List Ed) : Int := (t.map fun e => e.1).sum
theorem wsum_cons (e : Ed) (t : List Ed) : wsum (e :: t) = e.1 + wsum t := by
  unfold wsum
  rw [List.map_cons, List.sum_cons]
theorem run_len_le {m : List Int} : ∀ {t : List Ed} {m : List Int}, (run m t).2.length ≤ t.length
  | [], _ => Nat.le_refl _
  | e :: r, m => by
    by_cases c : mk m e.2.1 = mk m e.2.2
    · rw [run_skip c, List.length_cons]
      exact Nat.le_succ_of_le (run_len_le (m := m))
    · rw [run_take c]
      exact Nat.succ_le_succ (run_len_le (m := m))
/-- a wire that is not taken, if not all are -/
theorem refused {n : Nat} : ∀ {t : List Ed} {m : List Int}, (run m t).2.length < t.length → ∃ t1 f t2, t = t1 ++ f :: t2 ∧ mk (run m t1).1 f.2.1 = mk (run m t1).1 f.2.2
  | [], _, h => absurd h (Nat.not_lt_zero _)
  | e :: r, m, h => by
    by_cases c : mk m e.2.1 = mk m e.2.2
    · exact ⟨[], e, r, rfl, c⟩
    · rw [run_take c] at h
      obtain ⟨t1, f, t2, e1, q⟩ := refused (n := n) (t := r) (m := rel m e.2.1 e.2.2) (Nat.lt_of_succ_lt_succ h)
      refine ⟨e :: t1, f, t2, by rw [e1]; rfl, ?_⟩
      rw [run_take c]
      exact q
theorem run_sub : ∀ {L : List Ed} {m : List Int}, ∀ e ∈ (run m L).2, e ∈ L
  | [], _, _, q => q
  | a :: r, m, e, q => by
    by_cases c : mk m a.2.1 = mk m a.2.2
    · rw [run_skip c] at q
      exact List.mem_cons_of_mem _ (run_sub e q)
    · rw [run_take c] at q
      rcases List.mem_cons.mp q with q | q
      · rw [q]
        exact List.mem_cons_self
      · exact List.mem_cons_of_mem _ (run_sub e q)
theorem run_sublist : ∀ {L : List Ed} {m : List Int}, (run m L).2.Sublist L
  | [], _ => .slnil
  | a :: r, m => by
    by_cases c : mk m a.2.1 = mk m a.2.2
    · rw [run_skip c]
      exact (run_sublist (L := r) (m := m)).cons a
    · rw [run_take c]
      exact (run_sublist (L := r) (m := rel m a.2.1 a.2.2)).cons₂ a
theorem wsum_filter {e : Ed} : ∀ {t : List Ed}, e ∈ t → (∀ x ∈ t, 0 ≤ x.1) → wsum (t.filter fun x => decide (x ≠ e)) + e.1 ≤ wsum t
  | [], h, _ => nomatch h
  | a :: t, h, p => by
    have pt : ∀ x ∈ t, 0 ≤ x.1 := fun x hx => p x (List.mem_cons_of_mem _ hx)
    by_cases c : a = e
    · subst c
      rw [List.filter_cons, if_neg (by simp), wsum_cons]
      by_cases d : a ∈ t
      · have := wsum_filter d pt
        have := p a List.mem_cons_self
        omega
      · have q : t.filter (fun x => decide (x ≠ a)) = t := List.filter_eq_self.mpr fun x hx => by
          rw [decide_eq_true_eq]
          exact fun z => d (z ▸ hx)
        rw [q]
        omega
    · rw [List.filter_cons, if_pos (by simpa using c), wsum_cons, wsum_cons]
      have := wsum_filter (t := t) (by rcases List.mem_cons.mp h with z | z; exact absurd z.symm c; exact z) pt
      omega
theorem mem_filt {e x : Ed} {t : List Ed} : x ∈ t.filter (fun x => decide (x ≠ e)) ↔ x ∈ t ∧ x ≠ e := by
  rw [List.mem_filter, decide_eq_true_eq]
/-- THE LEAST SUM: what the run takes costs no more than any wires that join all -/
theorem greedy {n : Nat} : ∀ (L : List Ed) (m : List Int) (t : List Ed), Ok n m → In n L → L.Pairwise (fun a b => a.1 ≤ b.1) → (∀ e ∈ L, 0 ≤ e.1) → t.Nodup → (∀ e ∈ t, e ∈ L) → Sp n m t → wsum (run m L).2 ≤ wsum t
  | [], m, t, o, h, pw, p, nd, sub, sp => by
    cases t with
    | nil => exact Int.le_refl _
    | cons a r => exact nomatch sub a List.mem_cons_self
  | e :: r, m, t, o, h, pw, p, nd, sub, sp => by
    have hr : ∀ x ∈ r, 0 ≤ x.1 := fun x hx => p x (List.mem_cons_of_mem _ hx)
    have pt : ∀ x ∈ t, 0 ≤ x.1 := fun x hx => p x (sub x hx)
    have he := p e List.mem_cons_self
    rw [List.pairwise_cons] at pw
    have sub' : ∀ g, (g = e ∨ e ∉ t) → ∀ x ∈ t.filter (fun x => decide (x ≠ g)), x ∈ r := by
      intro g hg x hx
      obtain ⟨h1, h2⟩ := mem_filt.mp hx
      rcases List.mem_cons.mp (sub x h1) with z | z
      · rcases hg with hg | hg
        · exact absurd (z.trans hg.symm) h2
        · exact absurd (z ▸ h1) hg
      · exact z
    have ndf : ∀ g : Ed, (t.filter fun x => decide (x ≠ g)).Nodup := fun g => nd.filter _
    have le_f : ∀ g : Ed, wsum (t.filter fun x => decide (x ≠ g)) ≤ wsum t := by
      intro g
      by_cases c : g ∈ t
      · have := wsum_filter c pt
        have := pt g c
        omega
      · have q : t.filter (fun x => decide (x ≠ g)) = t := List.filter_eq_self.mpr fun x hx => by
          rw [decide_eq_true_eq]
          exact fun z => c (z ▸ hx)
        rw [q]
        exact Int.le_refl _
    by_cases c : mk m e.2.1 = mk m e.2.2
    · rw [run_skip c]
      refine Int.le_trans (greedy r m (t.filter fun x => decide (x ≠ e)) o h.tail pw.2 hr (ndf e) (sub' e (.inl rfl)) ?_) (le_f e)
      intro S hS hc h0
      refine sp S hS (fun x hx => ?_) h0
      by_cases d : x = e
      · rw [d]
        exact hS _ _ h.head.1 h.head.2 c
      · exact hc x (mem_filt.mpr ⟨hx, d⟩)
    · rw [run_take c, wsum_cons]
      have o2 := ok_rel o h.head.1 h.head.2
      by_cases d : e ∈ t
      · have g := greedy r (rel m e.2.1 e.2.2) (t.filter fun x => decide (x ≠ e)) o2 h.tail pw.2 hr (ndf e) (sub' e (.inl rfl)) ?_
        · have := wsum_filter d pt
          omega
        · intro S hS hc h0
          refine sp S (tied_of_rel o hS) (fun x hx => ?_) h0
          by_cases d2 : x = e
          · rw [d2]
            exact hS _ _ h.head.1 h.head.2 (rel_join o h.head.1 h.head.2)
          · exact hc x (mem_filt.mpr ⟨hx, d2⟩)
      · have ht : In n t := fun x hx => h x (sub x hx)
        have sp2 : Sp n (rel m e.2.1 e.2.2) t := fun S hS hc h0 => sp S (tied_of_rel o hS) hc h0
        have l1 := sp_len o ht sp
        have l2 := sp_len o2 ht sp2
        have l3 := cnt_rel o h.head.1 h.head.2 c
        have l4 : (run m t).2.length ≤ t.length := run_len_le (m := m)
        obtain ⟨t1, f, t2, et, hf⟩ := refused (n := n) (t := t) (m := rel m e.2.1 e.2.2) (by omega)
        have hft : f ∈ t := by
          rw [et]
          exact List.mem_append_right _ List.mem_cons_self
        have hfr : f ∈ r := by
          rcases List.mem_cons.mp (sub f hft) with z | z
          · exact absurd (z ▸ hft) d
          · exact z
        have nf : f ∉ t1 := by
          intro z
          rw [et] at nd
          exact (List.nodup_append.mp nd).2.2 f z f List.mem_cons_self rfl
        have ht1 : In n t1 := fun x hx => ht x (by rw [et]; exact List.mem_append_left _ hx)
        have g := greedy r (rel m e.2.1 e.2.2) (t.filter fun x => decide (x ≠ f)) o2 h.tail pw.2 hr (ndf f) (sub' f (.inr d)) ?_
        · have := wsum_filter hft pt
          have := pw.1 f hfr
          omega
        · intro S hS hc h0
          refine sp2 S hS (fun x hx => ?_) h0
          by_cases d2 : x = f
          · rw [d2]
            have hR := ht f hft
            refine tied_run o2 ht1 hS (fun y hy => ?_) _ _ hR.1 hR.2 hf
            have hy1 := run_sub y hy
            refine hc y (mem_filt.mpr ⟨by rw [et]; exact List.mem_append_left _ hy1, fun z => nf (z ▸ hy1)⟩)
          · exact hc x (mem_filt.mpr ⟨hx, d2⟩)
end SWM
namespace SWM
abbrev Ws := List (List Int)
def wc (ws : Ws) (a b : Int) : Int := (ws.getD (hiOf a b - 1).toNat []).getD (loOf a b).toNat 0
structure Good (ws : Ws) : Prop where
  lo : 1 ≤ ws.length
  hi : ws.length ≤ 6
  row : ∀ (i : Nat) (r : List Int), ws[i]? = some r → r.length = i + 1 ∧ ∀ c ∈ r, 0 ≤ c ∧ c ≤ 999
def places (n : Nat) : List Int := (List.range (n + 1)).map fun (i : Nat) => (i : Int)
theorem places_len (n : Nat) : (places n).length = n + 1 := by unfold places; rw [List.length_map, List.length_range]
theorem places_get (n i : Nat) (h : i < n + 1) : (places n)[i]? = some (i : Int) := by
  unfold places
  rw [List.getElem?_map, List.getElem?_range h]
  rfl
theorem mem_places {n : Nat} {x : Int} : x ∈ places n ↔ R n x := by
  unfold places R
  rw [List.mem_map]
  constructor
  · rintro ⟨i, hi, e⟩
    rw [List.mem_range] at hi
    omega
  · rintro ⟨h1, h2⟩
    exact ⟨x.toNat, by rw [List.mem_range]; omega, by omega⟩
theorem ok_places (n : Nat) : Ok n (places n) := ⟨places_len n, fun x hx => mem_places.mp hx⟩
theorem mk_places {n : Nat} {x : Int} (h : R n x) : mk (places n) x = x := by
  unfold mk
  rw [List.getD_eq_getElem?_getD, places_get n x.toNat (by have := h.1; have := h.2; omega)]
  show ((x.toNat : Nat) : Int) = x
  have := h.1
  omega
theorem cnt_places (n : Nat) : cnt n (places n) = n + 1 := by
  unfold cnt
  have : ((List.range (n + 1)).filter fun (v : Nat) => decide ((v : Int) ∈ places n)) = List.range (n + 1) := List.filter_eq_self.mpr fun v hv => by
    rw [List.mem_range] at hv
    rw [decide_eq_true_eq, mem_places]
    exact ⟨by omega, by omega⟩
  rw [this, List.length_range]

/-! ### the wires, in order -/
/-- the pairs, by the second place, then the first; by the first place, then the second -/
def pP (n : Nat) : List (Int × Int) := (places n).flatMap fun o => ((places n).filter fun a => decide (a < o)).map fun a => (a, o)
def pL (n : Nat) : List (Int × Int) := (places n).flatMap fun a => ((places n).filter fun o => decide (a < o)).map fun o => (a, o)
theorem six {n : Nat} {p : Nat → Prop} (h : n ≤ 6) (h0 : p 0) (h1 : p 1) (h2 : p 2) (h3 : p 3) (h4 : p 4) (h5 : p 5) (h6 : p 6) : p n := by
  match n, h with
  | 0, _ => exact h0
  | 1, _ => exact h1
  | 2, _ => exact h2
  | 3, _ => exact h3
  | 4, _ => exact h4
  | 5, _ => exact h5
  | 6, _ => exact h6
  | n + 7, h => exact absurd h (by omega)
theorem pL_perm {n : Nat} (h : n ≤ 6) : (pL n).Perm (pP n) :=
  six (p := fun n => (pL n).Perm (pP n)) h (by decide) (by decide) (by decide) (by decide) (by decide) (by decide) (by decide)
theorem pP_len {n : Nat} (h : n ≤ 6) : (pP n).length ≤ 21 :=
  six (p := fun n => (pP n).length ≤ 21) h (by decide) (by decide) (by decide) (by decide) (by decide) (by decide) (by decide)
theorem pP_nd {n : Nat} (h : n ≤ 6) : (pP n).Nodup :=
  six (p := fun n => (pP n).Nodup) h (by decide) (by decide) (by decide) (by decide) (by decide) (by decide) (by decide)
theorem mem_pP {n : Nat} {p : Int × Int} : p ∈ pP n ↔ 0 ≤ p.1 ∧ p.1 < p.2 ∧ p.2 ≤ (n : Int) := by
  unfold pP
  rw [List.mem_flatMap]
  constructor
  · rintro ⟨o, ho, hp⟩
    obtain ⟨a, ha, e⟩ := List.mem_map.mp hp
    subst e
    rw [List.mem_filter, decide_eq_true_eq] at ha
    have h1 := mem_places.mp ho
    have h2 := mem_places.mp ha.1
    exact ⟨h2.1, ha.2, h1.2⟩
  · rintro ⟨h1, h2, h3⟩
    refine ⟨p.2, mem_places.mpr ⟨by omega, h3⟩, List.mem_map.mpr ⟨p.1, ?_, rfl⟩⟩
    rw [List.mem_filter, decide_eq_true_eq]
    exact ⟨mem_places.mpr ⟨h1, by omega⟩, h2⟩
def tri (ws : Ws) (p : Int × Int) : Ed := (wc ws p.1 p.2, p.1, p.2)
/-- the wires' places in the order -/
def cd (e : Ed) : Int := e.1 * 1000000 + (e.2.1 * 1000 + e.2.2)
def cp (p : Int × Int) : Int := p.1 * 1000 + p.2
def se (ws : Ws) : List Ed := ((pP ws.length).map (tri ws)).mergeSort fun a b => decide (cd a ≤ cd b)
theorem msort_pw {α : Type} (f : α → Int) (l : List α) : (l.mergeSort fun a b => decide (f a ≤ f b)).Pairwise fun a b => f a ≤ f b := by
  have h := List.pairwise_mergeSort (le := fun a b => decide (f a ≤ f b)) (fun a b c h1 h2 => by
    rw [decide_eq_true_eq] at h1 h2 ⊢
    omega) (fun a b => by
    rw [Bool.or_eq_true, decide_eq_true_eq, decide_eq_true_eq]
    omega) l
  exact h.imp fun h => of_decide_eq_true h
theorem uniq {α : Type} (f : α → Int) {l1 l2 : List α} (inj : ∀ a ∈ l1, ∀ b ∈ l2, f a = f b → a = b) (p1 : l1.Pairwise fun a b => f a ≤ f b) (p2 : l2.Pairwise fun a b => f a ≤ f b) (h : l1.Perm l2) : l1 = l2 :=
  List.Perm.eq_of_pairwise (fun a b ha hb h1 h2 => inj a ha b hb (by omega)) p1 p2 h
theorem se_perm (ws : Ws) : (se ws).Perm ((pP ws.length).map (tri ws)) := List.mergeSort_perm _ _
theorem wc_at {ws : Ws} (g : Good ws) {a b : Int} (h0 : 0 ≤ a) (h1 : a < b) (h2 : b ≤ (ws.length : Int)) : ∃ r, ws[(hiOf a b - 1).toNat]? = some r ∧ hiOf a b = b ∧ loOf a b = a ∧ r[(loOf a b).toNat]? = some (wc ws a b) ∧ 0 ≤ wc ws a b ∧ wc ws a b ≤ 999 := by
  have e1 : hiOf a b = b := by unfold hiOf; rw [if_pos (by omega)]
  have e2 : loOf a b = a := by unfold loOf; rw [if_neg (by omega)]
  rw [e1, e2]
  have hl : (b - 1).toNat < ws.length := by omega
  refine ⟨ws[(b - 1).toNat], List.getElem?_eq_getElem hl, rfl, rfl, ?_⟩
  have hr := g.row _ _ (List.getElem?_eq_getElem hl)
  have hl2 : a.toNat < (ws[(b - 1).toNat]).length := by rw [hr.1]; omega
  have ew : wc ws a b = (ws[(b - 1).toNat])[a.toNat] := by
    have e3 : ws.getD (b - 1).toNat [] = ws[(b - 1).toNat] := by
      rw [List.getD_eq_getElem?_getD, List.getElem?_eq_getElem hl]
      rfl
    unfold wc
    rw [e1, e2, e3, List.getD_eq_getElem?_getD, List.getElem?_eq_getElem hl2]
    rfl
  have hm := hr.2 _ (List.getElem_mem hl2)
  rw [ew]
  exact ⟨List.getElem?_eq_getElem hl2, hm.1, hm.2⟩
theorem wc_sym {ws : Ws} {a b : Int} (h1 : a < b) : hiOf a b = b ∧ loOf a b = a := by
  unfold hiOf loOf
  rw [if_pos (by omega), if_neg (by omega)]
  exact ⟨rfl, rfl⟩
/-- one wire of the list -/
theorem mem_se {ws : Ws} (g : Good ws) {e : Ed} (h : e ∈ se ws) : 0 ≤ e.2.1 ∧ e.2.1 < e.2.2 ∧ e.2.2 ≤ (ws.length : Int) ∧ e.1 = wc ws e.2.1 e.2.2 ∧ 0 ≤ e.1 ∧ e.1 ≤ 999 := by
  rw [(se_perm ws).mem_iff, List.mem_map] at h
  obtain ⟨p, hp, rfl⟩ := h
  obtain ⟨h1, h2, h3⟩ := mem_pP.mp hp
  obtain ⟨r, _, _, _, _, h4, h5⟩ := wc_at g h1 h2 h3
  exact ⟨h1, h2, h3, rfl, h4, h5⟩
theorem se_in {ws : Ws} (g : Good ws) : In ws.length (se ws) := fun e h => by
  obtain ⟨h1, h2, h3, _⟩ := mem_se g h
  exact ⟨⟨h1, by omega⟩, ⟨by omega, h3⟩⟩
/-- unlike wires have unlike codes -/
theorem cd_inj {a b : Ed} (ha : 0 ≤ a.2.1 ∧ a.2.1 < 1000 ∧ 0 ≤ a.2.2 ∧ a.2.2 < 1000) (hb : 0 ≤ b.2.1 ∧ b.2.1 < 1000 ∧ 0 ≤ b.2.2 ∧ b.2.2 < 1000) (h : cd a = cd b) : a = b := by
  obtain ⟨a1, a2, a3⟩ := a
  obtain ⟨b1, b2, b3⟩ := b
  unfold cd at h
  simp only at ha hb h
  have e1 : a1 = b1 := by omega
  have e2 : a2 = b2 := by omega
  have e3 : a3 = b3 := by omega
  rw [e1, e2, e3]
theorem cp_inj {a b : Int × Int} (ha : 0 ≤ a.2 ∧ a.2 < 1000) (hb : 0 ≤ b.2 ∧ b.2 < 1000) (h : cp a = cp b) : a = b := by
  obtain ⟨a1, a2⟩ := a
  obtain ⟨b1, b2⟩ := b
  unfold cp at h
  simp only at ha hb h
  have e1 : a1 = b1 := by omega
  have e2 : a2 = b2 := by omega
  rw [e1, e2]
/-- a sorted list of the wires is se -/
theorem se_uniq {ws : Ws} (g : Good ws) {l : List Ed} (h : l.Perm ((pP ws.length).map (tri ws))) (pw : l.Pairwise fun a b => cd a ≤ cd b) : l = se ws := by
  have b : ∀ e ∈ se ws, 0 ≤ e.2.1 ∧ e.2.1 < 1000 ∧ 0 ≤ e.2.2 ∧ e.2.2 < 1000 := fun e he => by
    obtain ⟨h1, h2, h3, _⟩ := mem_se g he
    have := g.hi
    omega
  have hp : l.Perm (se ws) := h.trans (se_perm ws).symm
  exact uniq cd (fun x hx y hy q => cd_inj (b x (hp.mem_iff.mp hx)) (b y hy) q) pw (msort_pw cd _) hp
theorem se_len {ws : Ws} (g : Good ws) : (se ws).length ≤ 21 := by
  rw [(se_perm ws).length_eq, List.length_map]
  exact pP_len g.hi
theorem se_pairs_nd {ws : Ws} (g : Good ws) : ((se ws).map (·.2)).Nodup := by
  rw [((se_perm ws).map (·.2)).nodup_iff, List.map_map]
  have : ((fun e : Ed => e.2) ∘ tri ws) = fun p => p := rfl
  rw [this, List.map_id']
  exact pP_nd g.hi
theorem nodup_of_map {α β : Type} {f : α → β} {l : List α} (h : (l.map f).Nodup) : l.Nodup := by
  unfold List.Nodup at h ⊢
  rw [List.pairwise_map] at h
  exact h.imp fun q e => q (congrArg f e)
theorem se_cost {ws : Ws} (g : Good ws) : (se ws).Pairwise fun a b => a.1 ≤ b.1 := by
  have h := msort_pw cd ((pP ws.length).map (tri ws))
  refine List.Pairwise.imp_of_mem (R := fun a b => cd a ≤ cd b) ?_ h
  intro a b ha hb q
  obtain ⟨h1, h2, h3, _⟩ := mem_se g ha
  obtain ⟨k1, k2, k3, _⟩ := mem_se g hb
  have := g.hi
  unfold cd at q
  omega

/-! ### the tree -/
def grownM (ws : Ws) : List Ed := (run (places ws.length) (se ws)).2
def due (ws : Ws) : Int := wsum (grownM ws)
def tr (ws : Ws) : List (Int × Int) := ((grownM ws).map (·.2)).mergeSort fun a b => decide (cp a ≤ cp b)
theorem grown_mem {ws : Ws} {e : Ed} (h : e ∈ grownM ws) : e ∈ se ws := run_sub e h
/-- what wires of pairs join all places -/
def SpP (n : Nat) (t : List (Int × Int)) : Prop := ∀ S : Int → Prop, (∀ p ∈ t, (S p.1 ↔ S p.2)) → S 0 → ∀ x, R n x → S x
theorem sp_se {ws : Ws} : Sp ws.length (places ws.length) (se ws) := by
  intro S _ hc h0 x hx
  by_cases c : x = 0
  · rw [c]
    exact h0
  · have hm : tri ws (0, x) ∈ se ws := (se_perm ws).mem_iff.mpr (List.mem_map.mpr ⟨(0, x), mem_pP.mpr ⟨Int.le_refl 0, by have := hx.1; simp only; omega, hx.2⟩, rfl⟩)
    exact (hc _ hm).mp h0
theorem tied_places (n : Nat) (S : Int → Prop) : Tied n (places n) S := by
  intro x y hx hy q
  rw [mk_places hx, mk_places hy] at q
  rw [q]
theorem grown_span {ws : Ws} (g : Good ws) : SpP ws.length ((grownM ws).map (·.2)) := by
  intro S hc h0 x hx
  have hc' : Closed S (run (places ws.length) (se ws)).2 := fun e he => hc e.2 (List.mem_map.mpr ⟨e, he, rfl⟩)
  have t := tied_run (ok_places _) (se_in g) (tied_places ws.length S) hc'
  exact (t x 0 hx (R0 _) (sp_one (ok_places _) (se_in g) sp_se hx)).mpr h0
theorem grown_len {ws : Ws} (g : Good ws) : (grownM ws).length = ws.length := by
  have := sp_len (ok_places ws.length) (se_in g) sp_se
  rw [cnt_places] at this
  unfold grownM
  omega
theorem tr_perm (ws : Ws) : (tr ws).Perm ((grownM ws).map (·.2)) := List.mergeSort_perm _ _
theorem tr_len {ws : Ws} (g : Good ws) : (tr ws).length = ws.length := by
  rw [(tr_perm ws).length_eq, List.length_map, grown_len g]
theorem tr_span {ws : Ws} (g : Good ws) : SpP ws.length (tr ws) := by
  intro S hc
  exact grown_span g S fun p hp => hc p ((tr_perm ws).mem_iff.mpr hp)
theorem mem_tr {ws : Ws} (g : Good ws) {p : Int × Int} (h : p ∈ tr ws) : 0 ≤ p.1 ∧ p.1 < p.2 ∧ p.2 ≤ (ws.length : Int) := by
  rw [(tr_perm ws).mem_iff, List.mem_map] at h
  obtain ⟨e, he, rfl⟩ := h
  obtain ⟨h1, h2, h3, _⟩ := mem_se g (grown_mem he)
  exact ⟨h1, h2, h3⟩
theorem tr_nd {ws : Ws} (g : Good ws) : (tr ws).Nodup := by
  rw [(tr_perm ws).nodup_iff]
  have sub : ((grownM ws).map (·.2)).Sublist ((se ws).map (·.2)) := (run_sublist (L := se ws) (m := places ws.length)).map _
  exact sub.nodup (se_pairs_nd g)
theorem tr_asc {ws : Ws} (g : Good ws) : (tr ws).Pairwise fun a b => cp a < cp b := by
  have h := msort_pw cp ((grownM ws).map (·.2))
  have nd := tr_nd g
  unfold List.Nodup at nd
  have h2 := h.and nd
  refine List.Pairwise.imp_of_mem ?_ h2
  intro a b ha hb q
  have h3 := mem_tr g ha
  have h4 := mem_tr g hb
  have := g.hi
  have ne : cp a ≠ cp b := fun z => q.2 (cp_inj ⟨by omega, by omega⟩ ⟨by omega, by omega⟩ z)
  have := q.1
  omega
theorem tr_uniq {ws : Ws} (g : Good ws) {l : List (Int × Int)} (h : l.Perm ((grownM ws).map (·.2))) (pw : l.Pairwise fun a b => cp a ≤ cp b) : l = tr ws := by
  have hp : l.Perm (tr ws) := h.trans (tr_perm ws).symm
  have b : ∀ p ∈ tr ws, 0 ≤ p.2 ∧ p.2 < 1000 := fun p hp => by
    have := mem_tr g hp
    have := g.hi
    omega
  exact uniq cp (fun x hx y hy q => cp_inj (b x (hp.mem_iff.mp hx)) (b y hy) q) pw (msort_pw cp _) hp
def psum (ws : Ws) (t : List (Int × Int)) : Int := (t.map fun p => wc ws p.1 p.2).sum
theorem sum_perm {l1 l2 : List Int} (h : l1.Perm l2) : l1.sum = l2.sum := by
  induction h with
  | nil => rfl
  | cons x _ ih => rw [List.sum_cons, List.sum_cons, ih]
  | swap x y l => simp only [List.sum_cons]; omega
  | trans _ _ ih1 ih2 => rw [ih1, ih2]
theorem tr_sum {ws : Ws} (g : Good ws) : psum ws (tr ws) = due ws := by
  unfold psum due wsum
  rw [sum_perm ((tr_perm ws).map _), List.map_map]
  congr 1
  refine List.map_congr_left fun e he => ?_
  obtain ⟨_, _, _, h, _⟩ := mem_se g (grown_mem he)
  exact h.symm
/-- wires of a tree in the order of the pairs -/
structure TreeOk (n : Nat) (t : List (Int × Int)) : Prop where
  len : t.length = n
  asc : t.Pairwise fun a b => cp a < cp b
  rng : ∀ p ∈ t, 0 ≤ p.1 ∧ p.1 < p.2 ∧ p.2 ≤ (n : Int)
  sp : SpP n t
theorem tr_ok {ws : Ws} (g : Good ws) : TreeOk ws.length (tr ws) := ⟨tr_len g, tr_asc g, fun p hp => mem_tr g hp, tr_span g⟩
theorem asc_nd {t : List (Int × Int)} (h : t.Pairwise fun a b => cp a < cp b) : t.Nodup := by
  unfold List.Nodup
  exact h.imp fun q e => by rw [e] at q; omega
theorem least {ws : Ws} (g : Good ws) {t : List (Int × Int)} (o : TreeOk ws.length t) : due ws ≤ psum ws t := by
  have e : psum ws t = wsum (t.map (tri ws)) := by
    unfold psum wsum
    rw [List.map_map]
    rfl
  rw [e]
  refine greedy (se ws) (places ws.length) (t.map (tri ws)) (ok_places _) (se_in g) (se_cost g) (fun e he => (mem_se g he).2.2.2.2.1) ?_ ?_ ?_
  · have nd := asc_nd o.asc
    unfold List.Nodup at nd ⊢
    rw [List.pairwise_map]
    exact nd.imp fun q z => q (congrArg (fun e : Ed => e.2) z)
  · intro x hx
    obtain ⟨p, hp, rfl⟩ := List.mem_map.mp hx
    exact (se_perm ws).mem_iff.mpr (List.mem_map.mpr ⟨p, mem_pP.mpr (o.rng p hp), rfl⟩)
  · intro S _ hc h0
    exact o.sp S (fun p hp => hc (tri ws p) (List.mem_map.mpr ⟨p, hp, rfl⟩)) h0
/-- the wires from the well -/
def star (n : Nat) : List (Int × Int) := (List.range n).map fun (h : Nat) => ((0 : Int), (h : Int) + 1)
theorem star_len (n : Nat) : (star n).length = n := by unfold star; rw [List.length_map, List.length_range]
theorem star_ok (n : Nat) : TreeOk n (star n) := by
  refine ⟨star_len n, ?_, ?_, ?_⟩
  · unfold star
    rw [List.pairwise_map]
    refine List.pairwise_lt_range.imp fun q => ?_
    show (0 : Int) * 1000 + _ < 0 * 1000 + _
    omega
  · intro p hp
    obtain ⟨h, hh, rfl⟩ := List.mem_map.mp hp
    rw [List.mem_range] at hh
    simp only
    omega
  · intro S hc h0 x hx
    by_cases c : x = 0
    · rw [c]
      exact h0
    · have e : ((x.toNat - 1 : Nat) : Int) + 1 = x := by
        have := hx.1
        omega
      have m : ((0 : Int), x) ∈ star n := List.mem_map.mpr ⟨x.toNat - 1, by rw [List.mem_range]; have := hx.1; have := hx.2; omega, by rw [e]⟩
      exact (hc _ m).mp h0
theorem star_sum (ws : Ws) (g : Good ws) : psum ws (star ws.length) = (ws.map fun r => r.getD 0 0).sum := by
  unfold psum star
  rw [List.map_map]
  congr 1
  refine List.ext_getElem ?_ ?_
  · rw [List.length_map, List.length_map, List.length_range]
  · intro i h1 h2
    rw [List.length_map, List.length_range] at h1
    rw [List.getElem_map, List.getElem_map, List.getElem_range]
    show wc ws 0 ((i : Int) + 1) = _
    obtain ⟨r, e1, e2, e3, e4, _⟩ := wc_at g (a := 0) (b := (i : Int) + 1) (Int.le_refl 0) (by omega) (by omega)
    rw [e2] at e1
    rw [e3] at e4
    have ei : ((i : Int) + 1 - 1).toNat = i := by omega
    rw [ei, List.getElem?_eq_getElem h1] at e1
    rw [Option.some.inj e1, List.getD_eq_getElem?_getD]
    rw [show ((0 : Int).toNat) = 0 from rfl] at e4
    rw [e4]
    rfl
/-- two lists in strict order with the same members -/
theorem asc_uniq {l1 l2 : List (Int × Int)} (h1 : l1.Pairwise fun a b => cp a < cp b) (h2 : l2.Pairwise fun a b => cp a < cp b) (b : ∀ p ∈ l1, 0 ≤ p.2 ∧ p.2 < 1000) (h : ∀ p, p ∈ l1 ↔ p ∈ l2) : l1 = l2 := by
  have hp : l1.Perm l2 := (List.perm_ext_iff_of_nodup (asc_nd h1) (asc_nd h2)).mpr h
  exact uniq cp (fun x hx y hy q => cp_inj (b x hx) (b y ((h y).mpr hy)) q) (h1.imp fun q => by omega) (h2.imp fun q => by omega) hp
end SWM
namespace SWM
/-! ### the law's parts -/
structure Rl (n : Nat) (m : List Int) (P : List (List Int)) : Prop where
  all : ∀ x, R n x → ∃ p ∈ P, x ∈ p
  inr : ∀ p ∈ P, ∀ x ∈ p, R n x
  one : ∀ p ∈ P, ∀ x ∈ p, ∀ y ∈ p, mk m x = mk m y
  sep : ∀ p ∈ P, ∀ q ∈ P, ∀ x ∈ p, ∀ y ∈ q, mk m x = mk m y → p = q
theorem rl_start (n : Nat) : Rl n (places n) ((places n).map fun x => [x]) where
  all := fun x hx => ⟨[x], List.mem_map.mpr ⟨x, mem_places.mpr hx, rfl⟩, List.mem_singleton.mpr rfl⟩
  inr := fun p hp x hx => by
    obtain ⟨y, hy, rfl⟩ := List.mem_map.mp hp
    rw [List.mem_singleton.mp hx]
    exact mem_places.mp hy
  one := fun p hp x hx y hy => by
    obtain ⟨z, _, rfl⟩ := List.mem_map.mp hp
    rw [List.mem_singleton.mp hx, List.mem_singleton.mp hy]
  sep := fun p hp q hq x hx y hy e => by
    obtain ⟨z, hz, rfl⟩ := List.mem_map.mp hp
    obtain ⟨z', hz', rfl⟩ := List.mem_map.mp hq
    have e1 := List.mem_singleton.mp hx
    have e2 := List.mem_singleton.mp hy
    subst e1 e2
    rw [mk_places (mem_places.mp hz), mk_places (mem_places.mp hz')] at e
    rw [e]
/-- the first part with a place -/
theorem part_of {n : Nat} {m : List Int} {P : List (List Int)} (r : Rl n m P) {a : Int} (ha : R n a) : ∃ p rest, (P.filter fun q => decide (a ∈ q)) = p :: rest ∧ p ∈ P ∧ a ∈ p := by
  obtain ⟨p, hp, hap⟩ := r.all a ha
  have hm : p ∈ P.filter fun q => decide (a ∈ q) := List.mem_filter.mpr ⟨hp, decide_eq_true hap⟩
  cases e : P.filter fun q => decide (a ∈ q) with
  | nil =>
    rw [e] at hm
    exact nomatch hm
  | cons q rest =>
    have hq : q ∈ P.filter fun q => decide (a ∈ q) := by
      rw [e]
      exact List.mem_cons_self
    obtain ⟨h1, h2⟩ := List.mem_filter.mp hq
    exact ⟨q, rest, rfl, h1, of_decide_eq_true h2⟩
theorem same_part {n : Nat} {m : List Int} {P : List (List Int)} (r : Rl n m P) {a b : Int} (hb : R n b) {p : List Int} (hp : p ∈ P) (ha : a ∈ p) : b ∈ p ↔ mk m a = mk m b := by
  constructor
  · exact fun h => r.one p hp a ha b h
  · intro h
    obtain ⟨q, hq, hbq⟩ := r.all b hb
    rw [r.sep p hp q hq a ha b hbq h]
    exact hbq
theorem rl_join {n : Nat} {m : List Int} {P : List (List Int)} (o : Ok n m) (r : Rl n m P) {a b : Int} (hR : R n a) (hS : R n b) {p q : List Int} (hp : p ∈ P) (ha : a ∈ p) (hq : q ∈ P) (hb : b ∈ q) :
    Rl n (rel m a b) ((P.filter fun z => decide (a ∉ z) && decide (b ∉ z)) ++ [p ++ q]) := by
  have mem : ∀ z, z ∈ (P.filter fun z => decide (a ∉ z) && decide (b ∉ z)) ++ [p ++ q] ↔ (z ∈ P ∧ a ∉ z ∧ b ∉ z) ∨ z = p ++ q := by
    intro z
    rw [List.mem_append, List.mem_filter, Bool.and_eq_true, decide_eq_true_eq, decide_eq_true_eq, List.mem_singleton]
  have key : ∀ x, R n x → ((mk m x = mk m a ∨ mk m x = mk m b) ↔ x ∈ p ++ q) := by
    intro x hx
    rw [List.mem_append, same_part r hx hp ha, same_part r hx hq hb]
    constructor
    · rintro (h | h)
      · exact .inl h.symm
      · exact .inr h.symm
    · rintro (h | h)
      · exact .inl h.symm
      · exact .inr h.symm
  have ipq : ∀ x ∈ p ++ q, R n x := by
    intro x hx
    rcases List.mem_append.mp hx with h | h
    · exact r.inr p hp x h
    · exact r.inr q hq x h
  have out : ∀ z, z ∈ P → a ∉ z → b ∉ z → ∀ x ∈ z, ¬ (mk m x = mk m a ∨ mk m x = mk m b) := by
    intro z hz h1 h2 x hx h
    rcases h with h | h
    · exact h1 (by rw [r.sep z hz p hp x hx a ha h]; exact ha)
    · exact h2 (by rw [r.sep z hz q hq x hx b hb h]; exact hb)
  refine ⟨?_, ?_, ?_, ?_⟩
  · intro x hx
    by_cases c : x ∈ p ++ q
    · exact ⟨p ++ q, (mem _).mpr (.inr rfl), c⟩
    · obtain ⟨z, hz, hxz⟩ := r.all x hx
      refine ⟨z, (mem _).mpr (.inl ⟨hz, ?_, ?_⟩), hxz⟩
      · intro h
        exact c ((key x hx).mp (.inl (r.one z hz x hxz a h)))
      · intro h
        exact c ((key x hx).mp (.inr (r.one z hz x hxz b h)))
  · intro z hz x hx
    rcases (mem z).mp hz with ⟨h, _⟩ | rfl
    · exact r.inr z h x hx
    · exact ipq x hx
  · intro z hz x hx y hy
    rcases (mem z).mp hz with ⟨h, _⟩ | rfl
    · exact rel_keep o (r.inr z h x hx) (r.inr z h y hy) (r.one z h x hx y hy)
    · exact (rel_eq o hR hS (ipq x hx) (ipq y hy)).mpr (.inr ⟨(key x (ipq x hx)).mpr hx, (key y (ipq y hy)).mpr hy⟩)
  · intro z hz w hw x hx y hy e
    rcases (mem z).mp hz with ⟨h, h1, h2⟩ | rfl
    · rcases (mem w).mp hw with ⟨h', h3, h4⟩ | rfl
      · rcases (rel_eq o hR hS (r.inr z h x hx) (r.inr w h' y hy)).mp e with q | ⟨q, _⟩
        · exact r.sep z h w h' x hx y hy q
        · exact absurd q (out z h h1 h2 x hx)
      · rcases (rel_eq o hR hS (r.inr z h x hx) (ipq y hy)).mp e with q | ⟨q, _⟩
        · refine absurd ?_ (out z h h1 h2 x hx)
          rcases (key y (ipq y hy)).mpr hy with k | k
          · exact .inl (q.trans k)
          · exact .inr (q.trans k)
        · exact absurd q (out z h h1 h2 x hx)
    · rcases (mem w).mp hw with ⟨h', h3, h4⟩ | rfl
      · rcases (rel_eq o hR hS (ipq x hx) (r.inr w h' y hy)).mp e with q | ⟨_, q⟩
        · refine absurd ?_ (out w h' h3 h4 y hy)
          rcases (key x (ipq x hx)).mpr hx with k | k
          · exact .inl (q.symm.trans k)
          · exact .inr (q.symm.trans k)
        · exact absurd q (out w h' h3 h4 y hy)
      · rfl

/-! ### the law's pieces, and all trees -/
def add1 (left part : List Int) (near far : Int) : List Int := if near ∈ part ∧ far ∈ left ∧ far ∉ part then part ++ [far] else part
def add2 (left : List Int) (part : List Int) (p : Int × Int) : List Int := add1 left (add1 left part p.1 p.2) p.2 p.1
def round (left : List Int) (links : List (Int × Int)) (part : List Int) : List Int := links.foldl (add2 left) part
def rounds (left : List Int) (links : List (Int × Int)) : Nat → List Int → List Int
  | 0, p => p
  | k + 1, p => rounds left links k (round left links p)
def part1 (links : List (Int × Int)) (left : List Int) : List Int := rounds left links left.length [left.headD 0]
def cut (links : List (Int × Int)) (left : List Int) : List Int := left.filter fun x => decide (x ∉ part1 links left)
def pieces (links : List (Int × Int)) : Nat → List Int → Nat
  | 0, _ => 0
  | f + 1, left => if left = [] then 0 else 1 + pieces links f (cut links left)
theorem add1_mono {left part : List Int} {a b x : Int} (h : x ∈ part) : x ∈ add1 left part a b := by
  unfold add1
  split
  · exact List.mem_append_left _ h
  · exact h
theorem round_mono {left : List Int} {x : Int} : ∀ {links : List (Int × Int)} {part : List Int}, x ∈ part → x ∈ round left links part
  | [], _, h => h
  | p :: r, part, h => round_mono (links := r) (part := add2 left part p) (add1_mono (add1_mono h))
theorem rounds_mono {left : List Int} {links : List (Int × Int)} {x : Int} : ∀ {k : Nat} {part : List Int}, x ∈ part → x ∈ rounds left links k part
  | 0, _, h => h
  | k + 1, part, h => rounds_mono (k := k) (round_mono h)
theorem cut_lt {links : List (Int × Int)} {left : List Int} (h : left ≠ []) : (cut links left).length < left.length := by
  cases left with
  | nil => exact absurd rfl h
  | cons a r =>
    have ha : a ∈ part1 links (a :: r) := rounds_mono (List.mem_singleton.mpr rfl)
    unfold cut
    rw [List.filter_cons, if_neg (by simpa using ha), List.length_cons]
    exact Nat.lt_succ_of_le (List.length_filter_le _ _)
def grp (m : Int) : List Int := ((List.range 10).map fun (i : Nat) => (i : Int)).filter fun t => decide (m / 2 ^ t.toNat % 2 = 1)
/-- the pairs in the law's order, as it makes them -/
def prs (n : Nat) : List (Int × Int) := (List.range (n + 1)).flatMap fun (o : Nat) => (List.range (n - o)).map fun (k : Nat) => ((o : Int), (o : Int) + 1 + (k : Int))
def sub1 (n : Nat) (F : List (List (Int × Int))) (p : Int × Int) : List (List (Int × Int)) := F ++ (F.filter fun t => decide (t.length < n)).map fun t => t ++ [p]
def subs (n : Nat) : List (List (Int × Int)) := (prs n).foldl (sub1 n) [[]]
def full (n : Nat) : Int := 1 * 2 ^ ((n : Int) + 1).toNat - 1
def isT (n : Nat) (t : List (Int × Int)) : Bool := decide (t.length = n) && decide (pieces t (grp (full n)).length (grp (full n)) = 1)
def trees (n : Nat) : List (List (Int × Int)) := (subs n).filter (isT n)
def ascB : List (Int × Int) → Bool
  | a :: b :: r => decide (cp a < cp b) && ascB (b :: r)
  | _ => true
def edOf (p : Int × Int) : Ed := (0, p.1, p.2)
def okB (n : Nat) (t : List (Int × Int)) : Bool :=
  decide (t.length = n) && ascB t && t.all (fun p => decide (0 ≤ p.1) && decide (p.1 < p.2) && decide (p.2 ≤ (n : Int))) && (places n).all fun x => decide (mk (run (places n) (t.map edOf)).1 x = mk (run (places n) (t.map edOf)).1 0)
theorem asc_of {t : List (Int × Int)} (h : ascB t = true) : t.Pairwise fun a b => cp a < cp b := by
  induction t with
  | nil => exact .nil
  | cons a r ih =>
    cases r with
    | nil => exact .cons (fun _ q => nomatch q) .nil
    | cons b r =>
      unfold ascB at h
      rw [Bool.and_eq_true, decide_eq_true_eq] at h
      have ih := ih h.2
      refine .cons (fun x hx => ?_) ih
      rcases List.mem_cons.mp hx with rfl | hx
      · exact h.1
      · have := (List.pairwise_cons.mp ih).1 x hx
        omega
theorem ok_of {n : Nat} {t : List (Int × Int)} (h : okB n t = true) : TreeOk n t := by
  unfold okB at h
  rw [Bool.and_eq_true, Bool.and_eq_true, Bool.and_eq_true, decide_eq_true_eq] at h
  obtain ⟨⟨⟨h1, h2⟩, h3⟩, h4⟩ := h
  have rg : ∀ p ∈ t, 0 ≤ p.1 ∧ p.1 < p.2 ∧ p.2 ≤ (n : Int) := fun p hp => by
    have := List.all_eq_true.mp h3 p hp
    rw [Bool.and_eq_true, Bool.and_eq_true, decide_eq_true_eq, decide_eq_true_eq, decide_eq_true_eq] at this
    exact ⟨this.1.1, this.1.2, this.2⟩
  refine ⟨h1, asc_of h2, rg, ?_⟩
  intro S hc h0 x hx
  have hin : In n (t.map edOf) := fun e he => by
    obtain ⟨p, hp, rfl⟩ := List.mem_map.mp he
    have := rg p hp
    exact ⟨⟨this.1, by show p.1 ≤ _; omega⟩, ⟨by show 0 ≤ p.2; omega, this.2.2⟩⟩
  have hc' : Closed S (run (places n) (t.map edOf)).2 := fun e he => by
    obtain ⟨p, hp, rfl⟩ := List.mem_map.mp (run_sub e he)
    exact hc p hp
  have tt := tied_run (ok_places n) hin (tied_places n S) hc'
  have q := of_decide_eq_true (List.all_eq_true.mp h4 x (mem_places.mpr hx))
  exact (tt x 0 hx (R0 n) q).mpr h0
theorem trees_ok {n : Nat} (h1 : 1 ≤ n) (h3 : n < 4) : ∀ t ∈ trees n, TreeOk n t := by
  have key : (trees n).all (okB n) = true := by
    match n, h1, h3 with
    | 1, _, _ => decide +kernel
    | 2, _, _ => decide +kernel
    | 3, _, _ => decide +kernel
  intro t ht
  exact ok_of (List.all_eq_true.mp key t ht)
theorem subs_len {n : Nat} (h3 : n < 4) : ∀ i, ((prs n).take i |>.foldl (sub1 n) [[]]).length ≤ 64 := by
  have hp : (prs n).length ≤ 6 := by
    match n, h3 with
    | 0, _ => decide
    | 1, _ => decide
    | 2, _ => decide
    | 3, _ => decide
  have gen : ∀ (l : List (Int × Int)) (F : List (List (Int × Int))), (l.foldl (sub1 n) F).length ≤ F.length * 2 ^ l.length := by
    intro l
    induction l with
    | nil => intro F; simp
    | cons p r ih =>
      intro F
      have h1 : (sub1 n F p).length ≤ F.length * 2 := by
        unfold sub1
        rw [List.length_append, List.length_map]
        have := List.length_filter_le (fun t => decide (t.length < n)) F
        omega
      refine Nat.le_trans (ih _) ?_
      rw [List.length_cons, Nat.pow_succ]
      calc (sub1 n F p).length * 2 ^ r.length ≤ (F.length * 2) * 2 ^ r.length := Nat.mul_le_mul_right _ h1
        _ = F.length * (2 ^ r.length * 2) := by rw [Nat.mul_assoc, Nat.mul_comm 2]
  intro i
  have h := gen ((prs n).take i) [[]]
  have hl : ((prs n).take i).length ≤ 6 := by rw [List.length_take]; omega
  have h2 : 2 ^ ((prs n).take i).length ≤ 2 ^ 6 := Nat.pow_le_pow_right (by decide) hl
  rw [List.length_singleton, Nat.one_mul] at h
  exact Nat.le_trans h h2
end SWM
namespace SWM
/-! ### what hangs together with a place -/
theorem places_nd (n : Nat) : (places n).Nodup := by
  unfold places List.Nodup
  rw [List.pairwise_map]
  exact List.nodup_range.imp fun q e => q (by omega)
def dr (t : List (Int × Int)) : List (Int × Int) := t.flatMap fun p => [(p.1, p.2), (p.2, p.1)]
theorem mem_dr {t : List (Int × Int)} {q : Int × Int} : q ∈ dr t ↔ q ∈ t ∨ (q.2, q.1) ∈ t := by
  unfold dr
  rw [List.mem_flatMap]
  constructor
  · rintro ⟨p, hp, h⟩
    rcases List.mem_cons.mp h with rfl | h
    · exact .inl hp
    · rw [List.mem_singleton.mp h]
      exact .inr hp
  · rintro (h | h)
    · exact ⟨q, h, List.mem_cons_self⟩
    · exact ⟨(q.2, q.1), h, List.mem_cons_of_mem _ (List.mem_singleton.mpr rfl)⟩
structure Rs (n : Nat) (F W : List Int) : Prop where
  nd : F.Nodup
  rg : ∀ x ∈ F, R n x
  z : (0 : Int) ∈ F
  wf : ∀ x ∈ W, x ∈ F
/-- whoever is found, is not waiting and is not ex, has all neighbours found -/
def Cl (t : List (Int × Int)) (F W : List Int) (ex : Int → Prop) : Prop := ∀ q ∈ dr t, q.1 ∈ F → q.1 ∉ W → ¬ ex q.1 → q.2 ∈ F
def nf (n : Nat) (F : List Int) : Nat := ((places n).filter fun x => decide (x ∉ F)).length
theorem nf_snoc {n : Nat} {F : List Int} {y : Int} (hy : R n y) (h : y ∉ F) : nf n F = nf n (F ++ [y]) + 1 := by
  unfold nf
  refine filter_split _ _ y _ (places_nd n) (mem_places.mpr hy) (decide_eq_true h) ?_ ?_
  · rw [decide_eq_false_iff_not]
    exact fun q => q (List.mem_append_right _ (List.mem_singleton.mpr rfl))
  · intro x _ hx
    by_cases c : x ∈ F
    · rw [decide_eq_false (fun q => q c), decide_eq_false (fun q => q (List.mem_append_left _ c))]
    · rw [decide_eq_true c, decide_eq_true]
      intro q
      rcases List.mem_append.mp q with q | q
      · exact c q
      · exact hx (List.mem_singleton.mp q)
theorem Rs.add {n : Nat} {F W : List Int} (r : Rs n F W) {y : Int} (hy : R n y) (h : y ∉ F) : Rs n (F ++ [y]) (W ++ [y]) := by
  refine ⟨List.nodup_append.mpr ⟨r.nd, by simp, fun a ha b hb q => ?_⟩, fun x hx => ?_, List.mem_append_left _ r.z, fun x hx => ?_⟩
  · rw [List.mem_singleton.mp hb] at q
    exact h (q ▸ ha)
  · rcases List.mem_append.mp hx with q | q
    · exact r.rg x q
    · rw [List.mem_singleton.mp q]
      exact hy
  · rcases List.mem_append.mp hx with q | q
    · exact List.mem_append_left _ (r.wf x q)
    · exact List.mem_append_right _ q
theorem Cl.add {t : List (Int × Int)} {F W : List Int} {ex : Int → Prop} (c : Cl t F W ex) {y : Int} : Cl t (F ++ [y]) (W ++ [y]) ex := by
  intro q hq h1 h2 h3
  rcases List.mem_append.mp h1 with k | k
  · exact List.mem_append_left _ (c q hq k (fun z => h2 (List.mem_append_left _ z)) h3)
  · exact absurd (List.mem_append_right _ k) h2
theorem Cl.pop {t : List (Int × Int)} {F W : List Int} {y : Int} (c : Cl t F (W ++ [y]) fun _ => False) : Cl t F W fun x => x = y := by
  intro q hq h1 h2 h3
  refine c q hq h1 (fun z => ?_) id
  rcases List.mem_append.mp z with z | z
  · exact h2 z
  · exact h3 (List.mem_singleton.mp z)
theorem Cl.done {t : List (Int × Int)} {F W : List Int} {y : Int} (c : Cl t F W fun x => x = y) (h : ∀ q ∈ dr t, q.1 = y → q.2 ∈ F) : Cl t F W fun _ => False := by
  intro q hq h1 h2 _
  by_cases k : q.1 = y
  · exact h q hq k
  · exact c q hq h1 h2 k
theorem reach_all {n : Nat} {t : List (Int × Int)} {F : List Int} (r : Rs n F []) (c : Cl t F [] fun _ => False) (sp : SpP n t) : F.length = n + 1 := by
  have all : ∀ x, R n x → x ∈ F := by
    refine sp (fun x => x ∈ F) (fun p hp => ?_) r.z
    have h1 : (p.1, p.2) ∈ dr t := mem_dr.mpr (.inl hp)
    have h2 : (p.2, p.1) ∈ dr t := mem_dr.mpr (.inr hp)
    exact ⟨fun h => c _ h1 h (fun z => nomatch z) id, fun h => c _ h2 h (fun z => nomatch z) id⟩
  have hp : F.Perm (places n) := (List.perm_ext_iff_of_nodup r.nd (places_nd n)).mpr fun x => ⟨fun h => mem_places.mpr (r.rg x h), fun h => all x (mem_places.mp h)⟩
  rw [hp.length_eq, places_len]
theorem Rs.len {n : Nat} {F W : List Int} (r : Rs n F W) : F.length ≤ n + 1 := by
  have hp : F.Perm ((places n).filter fun x => decide (x ∈ F)) := (List.perm_ext_iff_of_nodup r.nd ((places_nd n).filter _)).mpr fun x => by
    rw [List.mem_filter, decide_eq_true_eq, mem_places]
    exact ⟨fun h => ⟨r.rg x h, h⟩, fun h => h.2⟩
  rw [hp.length_eq]
  refine Nat.le_trans (List.length_filter_le _ _) ?_
  rw [places_len]
  exact Nat.le_refl _
end SWM
/-! A0: four rules that the kit lacks: t[::-1] of a tuple, t * 1, set(t) of a tuple of tuples, enumerate(t) of a tuple. -/
namespace SW0
open PySem PySem.Spec PyProof.Rows L2 HT

/-! ### a tuple turned round -/
theorem rev_picks (xs : Array Value) : ((List.range xs.size).filterMap fun (k : Nat) => xs[(((xs.size : Int) - 1) + (k : Int) * (-1)).toNat]?) = xs.toList.reverse := by
  have e1 : ((List.range xs.size).filterMap fun (k : Nat) => xs[(((xs.size : Int) - 1) + (k : Int) * (-1)).toNat]?) = (List.range xs.size).filterMap fun k => xs[xs.size - 1 - k]? := by
    have : ∀ (l : List Nat), (∀ k ∈ l, k < xs.size) → (l.filterMap fun (k : Nat) => xs[(((xs.size : Int) - 1) + (k : Int) * (-1)).toNat]?) = l.filterMap fun k => xs[xs.size - 1 - k]? := by
      intro l
      induction l with
      | nil => intro _; rfl
      | cons a l ih =>
        intro h
        have ha := h a List.mem_cons_self
        have ea : (((xs.size : Int) - 1) + (a : Int) * (-1)).toNat = xs.size - 1 - a := by omega
        simp only [List.filterMap_cons, ea, ih fun k hk => h k (List.mem_cons_of_mem _ hk)]
    exact this _ fun k hk => List.mem_range.mp hk
  have e2 : ((List.range xs.size).filterMap fun k => xs[xs.size - 1 - k]?) = ((List.range xs.size).map fun k => xs.size - 1 - k).filterMap (xs[·]?) := by
    rw [List.filterMap_map]
    rfl
  rw [e1, e2, PySem.W.krv_range, List.filterMap_reverse, PySem.W.krv_all]
section
variable {prog : Program} {w : World} {A : Around} {E : Value → Shared → Prop} {s : Shared}
theorem back_applied {sl : Addr} {v1 v2 v3 : Value} {n : Nat} {Q : Int × Int × Nat → Shared → Prop} (hs : s.heap.IsSliceOf sl v1 v2 v3) (p1 : IsPart v1 none) (p2 : IsPart v2 none) (p3 : IsPart v3 (some (-1)))
    (h : Q ((n : Int) - 1, -1, n) s) : wpAny (model prog w) A (Builtin.Slice.sliceApplied (.ref sl) (pure (n : Int))) Q E s := by
  obtain ⟨ob, ho, _, hf⟩ := id hs
  unfold Builtin.Slice.sliceApplied Builtin.Slice.sliceFields
  refine wpAny_bind (wpAny_bind (wpAny_field ho hf (x := v1) rfl (wpAny_bind (wpAny_field ho hf (x := v2) rfl (wpAny_bind (wpAny_field ho hf (x := v3) rfl (wpAny_pure ?_)))))))
  refine wpAny_bind (slicePart_ p3 ?_)
  show wpAny _ _ (if ((-1 : Int) == 0) = true then _ else _) _ _ s
  rw [if_neg (by decide)]
  refine wpAny_bind (slicePart_ p1 (wpAny_bind (slicePart_ p2 (wpAny_bind (wpAny_pure ?_)))))
  have ea : Builtin.Slice.sliceAdjust none none (-1) (n : Int) = ((n : Int) - 1, -1) := rfl
  have ep : Builtin.Slice.slicePlaces ((n : Int) - 1) (-1) (-1) = n := by
    unfold Builtin.Slice.slicePlaces
    have c1 : ¬ ((-1 : Int) > 0) := by omega
    simp only [c1, if_false]
    by_cases c2 : (n : Int) - 1 > -1
    · simp only [c2, if_true]
      rw [show (-(-1 : Int)) = 1 by decide, Int.ediv_one]
      omega
    · simp only [c2, if_false]
      omega
  show wpAny _ _ (match Builtin.Slice.sliceAdjust none none (-1) (n : Int) with | (lo, hi) => pure (lo, (-1 : Int), Builtin.Slice.slicePlaces lo hi (-1))) _ _ s
  rw [ea]
  show wpAny _ _ (pure ((n : Int) - 1, (-1 : Int), Builtin.Slice.slicePlaces ((n : Int) - 1) (-1) (-1))) _ _ s
  rw [ep]
  exact wpAny_pure h
theorem getItem_back {t sl : Addr} {items : Array Value} {v1 v2 v3 : Value} {Q : Value → Shared → Prop} (ht : IsTup s.heap t items) (hs : s.heap.IsSliceOf sl v1 v2 v3) (p1 : IsPart v1 none) (p2 : IsPart v2 none) (p3 : IsPart v3 (some (-1))) (hz : items.size ≤ sizeLine)
    (h : Q (.ref s.heap.objs.size) { s with heap := s.heap.push { cls := .type "tuple", data := .seq items.toList.reverse.toArray } }) : wpAny (model prog w) A (getItem (.ref t) (.ref sl)) Q E s := by
  obtain ⟨ob, ho, hcl, hf⟩ := id hs
  have hty : s.TypeIs (.ref sl) "slice" := ⟨ob, ho, hcl⟩
  have hfits : sizeOk (.seq items.toList.reverse.toArray) := by
    show items.toList.reverse.toArray.size ≤ sizeLine
    rw [List.size_toArray, List.length_reverse, Array.length_toList]
    exact hz
  unfold getItem
  try with_reducible refine wpAny_holding ?_
  refine wpAny_bind (wpAny_sequenceKey ht.typeIs (by decide) ?_)
  refine wpAny_bind (wpAny_callSpecial?_slot (name := Str.ofString "__getitem__") ht.typeIs PyProof.Rows.slot_tuple_getitem
    (wpAny_call_entry PyProof.Rows.slot_tuple_getitem ht.typeIs entry_tuple_getitem ?_ (args_tuple_getitem _ _)))
  show wpAny _ _ (Builtin.Tuple.tupleItemsOf (.ref t) >>= _) _ _ s
  refine wpAny_bind (tupleItemsOf_ ht ?_)
  refine wpAny_bind (wpAny_typeOf hty ?_)
  rw [if_pos (by decide)]
  refine wpAny_bind (back_applied hs p1 p2 p3 ?_)
  have hn : ¬ (((((items.size : Nat) : Int) - 1) == 0 && (-1 : Int) == 1 && items.size == items.size) = true) := by
    intro q
    rw [Bool.and_eq_true, Bool.and_eq_true] at q
    exact absurd q.1.2 (by decide)
  show wpAny _ _ (if ((((items.size : Nat) : Int) - 1) == 0 && (-1 : Int) == 1 && items.size == items.size) = true then _ else _) _ _ s
  rw [if_neg hn, rev_picks]
  first
    | exact wpAny_bind (m := Builtin.Tuple.tupleExact _) (wpAny_newObj_type (wpAny_pure ⟨_, rfl, wpAny_pure h⟩) hfits)
    | exact wpAny_bind (m := Builtin.Tuple.tupleExact _) (wpAny_newObj_type (wpAny_bind (wpAny_pure (wpAny_pure ⟨_, rfl, wpAny_pure h⟩))) hfits)
    | exact wpAny_bind (wpAny_bind (m := Builtin.Tuple.tupleExact _) (wpAny_newObj_type (wpAny_pure (wpAny_pure ⟨_, rfl, wpAny_pure h⟩)) hfits))
    | exact wpAny_bind (wpAny_bind (m := Builtin.Tuple.tupleExact _) (wpAny_newObj_type (wpAny_pure ⟨_, rfl, wpAny_pure h⟩) hfits))
end
section
variable {X : Cx}
def tRevT (K : PySem.W.Frag) (te : TE) : TE := fun σ H Q => te σ H fun x H1 => ∃ a xs, x = .ref a ∧ SqT K H1 a xs ∧ ∀ p, H1 p = none → Q (.ref p) (upd H1 p (.tup xs.reverse))
theorem pe_revT {e : Expr} {te : TE} {k : Nat} {p1 p2 p3 pos : Pos} (he : PE X e te) :
    PE X (.Subscript e (.Slice none none (some (.UnaryOp .USub (.Constant (.int 1) k p1) p2)) p3) pos) (tRevT X.K te) := by
  constructor
  intro pins s σ H Q I h
  refine Subscript_ (thn (he.run pins s σ H _ I h) ?_)
  rintro v s1 ⟨x, H1, I1, r1, a, xs, rfl, hx, q⟩
  cases r1
  have back : PO X (some (.UnaryOp .USub (.Constant (.int 1) k p1) p2)) (tPart (tUn (rU fun i => .int (-i)) (tC (.int 1)))) := po_some (pe_un un_neg pe_int)
  refine wpAny_Slice (thn (po_none.run pins s1 σ H1 (fun o H2 => o = none ∧ H2 = H1) I1 ⟨rfl, rfl⟩) ?_)
  rintro vl s2 ⟨_, _, I2, pl, rfl, rfl⟩
  refine thn (po_none.run pins s2 σ _ (fun o H3 => o = none ∧ H3 = _) I2 ⟨rfl, rfl⟩) ?_
  rintro vu s3 ⟨_, _, I3, pu, rfl, rfl⟩
  refine thn (back.run pins s3 σ _ (fun o H4 => o = some (-1) ∧ H4 = _) I3 ⟨1, rfl, -1, rfl, rfl, rfl⟩) ?_
  rintro vs s4 ⟨_, H4, I4, ps, rfl, rfl⟩
  have I5 : Inv X pins σ H4 { s4 with heap := s4.heap.push { cls := .type "slice", data := .fields #[vl, vu, vs] } } := I4.kept (t' := s4.toks) fun b ob q => Heap.get?_push_of_some _ q
  obtain ⟨its, r, ht, hz⟩ := I5.tuple hx
  have hlen := r.length
  show wpAny (model X.prog X.w) X.A (subscriptTail e (.Slice none none (some (.UnaryOp .USub (.Constant (.int 1) k p1) p2)) p3) (.ref a) (.ref s4.heap.objs.size)) (EP X pins σ Q) X.xe { s4 with heap := s4.heap.push { cls := .type "slice", data := .fields #[vl, vu, vs] } }
  refine tail_any (ops := [.ref a, .ref s4.heap.objs.size]) ht.typeIs PyProof.Rows.slot_tuple_getitem.lookup ?_ (by with_unfolding_all rfl)
  refine getItem_back ht (Heap.IsSliceOf.new _ vl vu vs) pl pu ps (by rw [List.size_toArray]; omega) ?_
  refine ⟨.ref _, _, I5.laid (t' := s4.toks) (o := .tup xs.reverse) (fun b ob q => Heap.get?_push_of_some _ q) (Nat.le_refl _) ?_, rfl, q _ (I5.hok.fresh (Nat.le_refl _))⟩
  exact ⟨by rw [List.length_reverse]; exact hz, its.reverse, r.reverse, IsTup.new _ _⟩
end

/-! ### t * 1 -/
theorem mul_once (l : Addr) (items : Array Value) (n : Nat) (dd : Option Addr) (sl : Array (Option Value)) (u : Tok) :
    Meets (Builtin.«tuple.__mul__» ⟨[.ref l, .int 1 u], []⟩) (fun _ R s => s.heap.get? l = some { cls := .type "tuple", dict := dd, data := .seq items n, slots := sl } ∧ R (.ok (.ret (Value.ref l))) s) :=
  .of_wp fun prog w A R s h => by
    obtain ⟨hp, g, d, tk, os⟩ := s
    obtain ⟨hl, h⟩ := h
    have f1 := AutoSeq1.idx_int
    have c1 : (items.isEmpty || (1 : Int) == 1) = true := by rw [Bool.or_eq_true]; exact .inr rfl
    have c0 : (decide ((1 : Int) < -(2 ^ 63)) || decide ((1 : Int) ≥ 2 ^ 63)) = false := by decide
    wp_walk using wpAny_loadPart' hl
    repeat (first
      | (refine wpAny_ite_false (decide_eq_false (by rw [c0]; exact Bool.false_ne_true)) ?_; wp_walk using wpAny_loadPart' hl)
      | (refine wpAny_ite_true (decide_eq_true (by rw [c1])) ?_; wp_walk using wpAny_loadPart' hl))
    exact ⟨_, rfl, h⟩
def rOnce (K : PySem.W.Frag) : R2 := fun x y H Q => ∃ l xs, x = .ref l ∧ y = .int 1 ∧ SqT K H l xs ∧ Q (.ref l) H
section
variable {X : Cx}
theorem op_once : OpR X (binaryOp .Mult) (rOnce X.K) := by
  intro pins s σ H x y v u Q I rx ry h
  obtain ⟨l, xs, rfl, rfl, hT, q⟩ := h
  cases rx
  obtain ⟨t, rfl⟩ := ry
  obtain ⟨its, r, ⟨⟨cls, dd, data, sl⟩, ho, hc, n, hd⟩, hs⟩ := I.tuple hT
  simp only at hc hd
  subst hc hd
  refine wpAny_binaryOp_repeat_ref (T := "tuple") (U := "int") (by decide) ⟨_, ho, rfl⟩ (fun s' => typeIs_int s' 1 t) noFill_tuple_mul F.fills_int_mul F.slot_int_rmul repeat_tuple F.slot_int_index.lookup ?_
  refine call_meets F.slot_int_rmul (typeIs_int s 1 t) F.entry_int_rmul (F.args_int_rmul_2 _ _) (int_rmul_tuple 1 t l its.toArray n dd sl) ⟨ho, rfl, ⟨_, ho, rfl⟩, ?_⟩
  exact call_meets F.slot_tuple_mul ⟨_, ho, rfl⟩ F.entry_tuple_mul (F.args_tuple_mul_2 _ _) (mul_once l its.toArray n dd sl t) ⟨ho, .ref l, H, I, rfl, q⟩
end
end SW0
/-! A1: enumerate(t) of a tuple t. -/
namespace SW0
open PySem PySem.Spec PyProof.Rows L2
/-- the tuple at a, its items in new pairs with their places -/
def IteT (K : PySem.W.Frag) (a : Addr) : It where
  go i H := ∃ (xs : List V) (x : V), SqT K H a xs ∧ xs[i]? = some x
  yld i H v H' := ∃ T x, v = .ref T ∧ H T = none ∧ H' = upd H T (.tup [.int (i : Nat), x]) ∧ ∀ xs, SqT K H a xs → xs[i]? = some x
  stop i H := ∃ xs : List V, SqT K H a xs ∧ xs.length ≤ i
def iEnumT (K : PySem.W.Frag) (ta : TA) : TI := fun σ H R => ta σ H fun vs H1 => ∃ a xs, vs = [.ref a] ∧ SqT K H1 a xs ∧ R (IteT K a) H1
theorem fp2 {e it b : Addr} (h : b ∈ [e, it]) : b = e ∨ b = it := by simpa using h
theorem turnEnumT {P : Program} {w : World} {K : PySem.W.Frag} {elts : List Expr} {kk : Nat} {tpos : Pos} (a e it : Addr) (hai : a ≠ it) :
    Turn P w K (.Tuple elts kk tpos) (IteT K a) [e, it] e (fun i h => (∃ old, IsEnum h e it ((i : Nat) : Int) old) ∧ h.IsTupleIter it a i ∧ e ≠ it ∧ e ≠ a) where
  mem := List.mem_cons_self
  obj := by
    rintro i h ⟨⟨old, he⟩, ⟨o, ho, hc, hd⟩, _⟩ b hb
    rcases fp2 hb with rfl | rfl
    · exact ⟨_, he, fun v q => nomatch q⟩
    · exact ⟨o, ho, fun v q => by rw [hd] at q; cases q⟩
  keep := by
    rintro i h h' ⟨⟨old, he⟩, hi, hne⟩ k
    exact ⟨⟨old, k e (by simp) _ he⟩, hi.at fun o q => k it (by simp) o q, hne⟩
  item := by
    intro X hP hw hK hc i pins s σ H E I hf st hg
    subst hP hw hK
    obtain ⟨⟨old, he⟩, hit, hne, hea⟩ := st
    obtain ⟨xs, x, hq, hx⟩ := hg
    obtain ⟨its, rv, ⟨ot, hot, hct, nt, hdt⟩, hz⟩ := I.tuple hq
    obtain ⟨u, hu, ru⟩ := rv.get hx
    have hlt : i < its.toArray.size := by
      rw [List.size_toArray]
      exact (List.getElem?_eq_some_iff.mp hu).1
    have hel : e < s.heap.objs.size := Heap.lt_size he
    have hil : it < s.heap.objs.size := by
      obtain ⟨_, q, _⟩ := hit
      exact Heap.lt_size q
    have hh : X.A.in1.handled = none := by simpa using I.ok.hd hc
    refine wpAny_pyNext_enum_itemD (Draws.tuple hh it a hai its.toArray) he ⟨hit, ⟨ot, hot, hct, nt, hdt⟩⟩ hlt hne (by simp [hne, hea]) ?_
    intro y h' tk hP ho hit' hT hsz hk
    refine ⟨_, rfl, wpAny_letOwnedTupleGo_enum ho fun h'' he' sb => ?_⟩
    have ey : y = u := by
      have hP' : its[i]? = some y := by simpa using hP
      exact Option.some.inj (hP'.symm.trans hu)
    subst ey
    have hnew : h''.get? s.heap.objs.size = some { cls := .type "tuple", data := .seq #[.int i tk, y] } := (sb.2 _ (Nat.ne_of_gt hel)).trans hT
    have obj : ObjOk X.prog X.w (upd H s.heap.objs.size (.tup [.int (i : Nat), x])) h'' s.heap.objs.size (.tup [.int (i : Nat), x]) :=
      ⟨by show 2 ≤ sizeLine; decide, [.int i tk, y], .cons ⟨_, rfl⟩ (.cons ru .nil), ⟨_, hnew, rfl, _, rfl⟩⟩
    have I1 : Inv X pins σ (upd H s.heap.objs.size (.tup [.int (i : Nat), x])) { s with heap := h'', toks := tk + 1 } := by
      refine I.turnedNew (ch := [e, it]) (fun b ob hb q => ?_) hf (Nat.le_refl _) obj
      have n1 : b ≠ e := fun z => hb (by simp [z])
      have n2 : b ≠ it := fun z => hb (by simp [z])
      exact (sb.2 b n1).trans (hk b ob n1 n2 q)
    refine ⟨.ref s.heap.objs.size, _, I1, rfl, ⟨_, x, rfl, I.hok.fresh (Nat.le_refl _), rfl, fun ys hy => by rw [I.tuple_inj hy hq]; exact hx⟩, ⟨⟨y, ?_⟩, ?_, hne, hea⟩, fun b hb => ?_⟩
    · have e1 : ((i + 1 : Nat) : Int) = (i : Int) + 1 := by omega
      rw [e1]
      exact he'
    · exact hit'.1.at fun o q => (sb.2 it (Ne.symm hne)).trans q
    · have hb' : b < s.heap.objs.size := by
        rcases fp2 hb with rfl | rfl
        · exact hel
        · exact hil
      rw [upd_ne (Nat.ne_of_lt hb')]
      exact (hf b hb).1
  done := by
    intro X hP hw hK hc i pins s σ H E I hf st hg
    subst hP hw hK
    obtain ⟨⟨old, he⟩, hit, hne, hea⟩ := st
    obtain ⟨xs, hq, hx⟩ := hg
    obtain ⟨its, rv, ⟨ot, hot, hct, nt, hdt⟩, hz⟩ := I.tuple hq
    obtain ⟨f0, f1, f2, f3, f4, f5⟩ := hf it (by simp)
    have hl := rv.length
    have hh : X.A.in1.handled = none := by simpa using I.ok.hd hc
    have hT : s.TypeIs (.ref e) "enumerate" := ⟨_, he, rfl⟩
    unfold pyNext
    refine wpAny_bind (wpAny_attempt (wpAny_callSpecial?_slot (name := Str.ofString "__next__") hT F.slot_enumerate_next (wpAny_call_entry F.slot_enumerate_next hT F.entry_enumerate_next ?_ (F.args_enumerate_next_1 _))))
    show wpAny _ _ (field (.ref e) 2 >>= _) _ _ _
    refine wpAny_bind (wpAny_field he rfl (x := .ref it) rfl ?_)
    refine wpAny_bind (wpAny_nextOf_tuple_end (t := a) (items := its.toArray) hh hit ⟨ot, hot, hct, nt, hdt⟩ (by simp; omega) fun h' x eb hx' => ?_)
    obtain ⟨o, ho, hcl⟩ := hx'
    refine wpAny_bind (wpAny_isInstance (T := "StopIteration") (b := true) ⟨o, ho, hcl⟩ isSubtype_stop ?_)
    exact wpAny_pure ⟨rfl, I.turned (t' := s.toks) (fun b o hb q => eb b o hb q) f0 f1 f3 f4 f5⟩
  self := fun A i s Q E st h => let ⟨⟨_, he⟩, _⟩ := st; wpAny_pyIter_enum he h

/-! the iterator's making -/
abbrev tIt (a : Addr) : Obj := { cls := .type "tuple_iterator", data := .fields #[.ref a, .int 0 0] }
abbrev enOb (i : Addr) : Obj := { cls := .type "enumerate", data := .fields #[.none, .bool false, .ref i, rawInt 0, .none, .none] }
theorem enumT_new (a : Addr) (items : Array Value) (n : Nat) (dd : Option Addr) (sl : Array (Option Value)) :
    Meets (Builtin.«enumerate.__new__» ⟨[.type "enumerate", .ref a], []⟩) (fun _ R s => s.heap.get? a = some { cls := .type "tuple", dict := dd, data := .seq items n, slots := sl } ∧
      R (.ok (.ret (.ref (s.heap.push (tIt a)).objs.size))) { s with heap := (s.heap.push (tIt a)).push (enOb s.heap.objs.size) }) := by
  refine .of_wp fun prog w A R s h => ?_
  obtain ⟨hp, g, d, tk, os⟩ := s
  obtain ⟨ha, h⟩ := h
  have hsub := sub_enumerate
  have isT : Heap.IsTuple (Shared.heap ⟨hp, g, d, tk, os⟩) a items := ⟨_, ha, rfl, n, rfl⟩
  wp_walk using AutoSeq1.wpAny_loadPart' ha
  refine wpAny_stack_any fun st => wpAny_pure ?_
  split
  · rename_i c _ _ _ _ _
    cases (c == Value.type "enumerate") <;> (wp_walk using AutoSeq1.wpAny_loadPart' ha, wpAny_pyIter_tuple isT; exact ⟨_, rfl, h⟩)
  · wp_walk using AutoSeq1.wpAny_loadPart' ha, wpAny_pyIter_tuple isT
    exact ⟨_, rfl, h⟩
theorem enumT_call {prog : Program} {w : World} {A : Around} {E : Value → Shared → Prop} {s : Shared} {a : Addr} {items : Array Value} {Q : Value → Shared → Prop} (ht : s.heap.IsTuple a items)
    (h : ∀ h', IsEnum h' (s.heap.objs.size + 1) s.heap.objs.size 0 .none → h'.IsTupleIter s.heap.objs.size a 0 → h'.objs.size = s.heap.objs.size + 2 → (∀ b o, s.heap.get? b = some o → h'.get? b = some o) →
      Q (.ref (s.heap.objs.size + 1)) { s with heap := h' }) : wpAny (model prog w) A (call (.type "enumerate") [.ref a]) Q E s := by
  obtain ⟨⟨c, dd, dt, sl⟩, ha, hc, n, hd⟩ := ht
  simp only at hc hd
  subst hc hd
  have hz : (s.heap.push (tIt a)).objs.size = s.heap.objs.size + 1 := Heap.size_push ..
  have hE := Heap.get?_push_size (s.heap.push (tIt a)) (o := enOb s.heap.objs.size) rfl
  rw [hz] at hE
  have hE' : IsEnum ((s.heap.push (tIt a)).push (enOb s.heap.objs.size)) (s.heap.objs.size + 1) s.heap.objs.size 0 .none := hE
  refine callType_new F.called_enumerate (by decide) (F.typeCall_enumerate_1 _) (F.newCall_enumerate_1 _) (fun obj => F.args_object_init_2 obj _) F.entry_enumerate_new (enumT_new a items n dd sl) ⟨ha, ?_⟩
  show _ ∧ _
  rw [hz]
  refine ⟨⟨_, hE', rfl⟩, h _ hE' ⟨_, Heap.get?_push_of_some _ (Heap.get?_push_size _ rfl), rfl, rfl⟩ ?_ ?_⟩
  · rw [Heap.size_push, hz]
  · intro b o x
    exact Heap.get?_push_of_some _ (Heap.get?_push_of_some _ x)
theorem pi_enumT {X : Cx} {e : Expr} {ta : TA} {p pos tpos : Pos} {elts : List Expr} {kk : Nat} (hg : Gl X "enumerate") (hm : X.mg "enumerate" = none) (ha : PA X [e] ta) (hs : starEach [e] X.env = [(false, eval e X.env)] := by rfl) :
    PI X (.Tuple elts kk tpos) (.Call (.Name "enumerate" p) [e] [] pos) (iEnumT X.K ta) := by
  constructor
  intro pins s σ H R I h
  refine Call_ (ld_blt I hg hm boot_enumerate (PyProof.Rows.callWith_type1 (thn (ha.run pos pins s σ H _ I h) ?_) hs rfl))
  rintro us s1 ⟨vs, H1, I1, r1, a, xs, rfl, hq, q⟩
  obtain rfl := Vals.ref1 r1
  obtain ⟨its, rv, ⟨ot, hot, hct, nt, hdt⟩, hz⟩ := I1.tuple hq
  have hal : a < s1.heap.objs.size := Heap.lt_size hot
  refine enumT_call ⟨ot, hot, hct, nt, hdt⟩ fun h' he hit hsz hk => wpAny_pyIter_enum he ?_
  have I2 : Inv X pins σ H1 { s1 with heap := h' } := I1.kept (t' := s1.toks) hk
  refine ⟨s1.heap.objs.size + 1, [s1.heap.objs.size + 1, s1.heap.objs.size], _, _, H1, rfl, I2, turnEnumT a (s1.heap.objs.size + 1) s1.heap.objs.size (Nat.ne_of_lt hal), ⟨⟨.none, he⟩, hit, Nat.succ_ne_self _, Nat.ne_of_gt (Nat.lt_succ_of_lt hal)⟩, fun b hb => ?_, q⟩
  have hle : s1.heap.objs.size ≤ b := by
    rcases fp2 hb with rfl | rfl
    · exact Nat.le_add_right _ _
    · exact Nat.le_refl _
  exact I1.fpOk hle (I1.hok.fresh hle)
end SW0
/-! A2: set(t), t a tuple of tuples of ints. -/
namespace SW0
open PySem PySem.Spec PyProof.Rows L2
section
variable {P : Program} {w : World} {A : Around} {E : Value → Shared → Prop} {s : Shared}
/-- the empty set that set.__new__ lays -/
abbrev eSet (w : World) : Obj := { cls := .type "set", dict := none, data := .set #[] 0 (.fresh 0 0 (!w.params.followText "set-order")) }
/-- what stands behind set's __init__ -/
def SetDone (P : Program) (w : World) (s : Shared) (ks : List (Addr × List Int)) (s' : Shared) : Prop :=
  ∃ h' tk L es ep t, s' = { s with heap := h', toks := tk } ∧ SetTR P w h' s.heap.objs.size L es ep t ∧ Got ks ks.length L ∧ ∀ b o, s.heap.get? b = some o → h'.get? b = some o
theorem gone {h : Heap} {b : Addr} (hb : h.objs.size ≤ b) : h.get? b = none := by
  cases q : h.get? b with
  | none => rfl
  | some o => exact absurd (Nat.lt_of_lt_of_le (Heap.lt_size q) hb) (Nat.lt_irrefl _)
theorem set_of_tuple {l : Addr} {its : Array Value} (ks : List (Addr × List Int)) {Q : Value → Shared → Prop} (h0 : A.handled = none) (ht : s.heap.IsTuple l its) (hv : its.toList = ks.map fun p => Value.ref p.1)
    (hk : ∀ p ∈ ks, IsT P w s.heap p.2 p.1) (hf : ks.length < 64) (hu : A.units + 3 < cLine) (fin : ∀ s', SetDone P w s ks s' → Q (.ref s.heap.objs.size) s') : wpAny (model P w) A (call (.type "set") [.ref l]) Q E s := by
  have hsz : its.size = ks.length := by
    have q := congrArg List.length hv
    rwa [Array.length_toList, List.length_map] at q
  obtain ⟨c, tl, hmro⟩ := F.called_set.mro
  have m1 := F.called_set.made
  have m2 := F.called_set.sub
  refine wpAny_call (codeAny_of_tree ?_)
  show wpAny _ _ (callAny (.type "set") _) _ _ _
  refine wpAny_pure ⟨Code.quiet_builtin _ (by decide +kernel), codeAny_builtin F.entry_type_call ?_⟩
  rw [Around.under_plain (weight_type_call_type "set" [.ref l] []) rfl]
  have m3 := F.called_set.notType
  have m4 := F.called_set.canCreate
  have m5 := F.typeCall_set_1 (.ref l)
  repeat (any_goals (first | assumption | wp_step))
  refine codeAny_mono (code_set_led1 (.ref l) (E := E) (Q₁ := fun o s1 => o = .ref s.heap.objs.size ∧ s1 = { s with heap := s.heap.push (eSet w) }) ⟨rfl, rfl⟩) ?_
  rintro (e | fl) s1 hr
  · exact hr
  cases fl with
  | ret obj =>
    obtain ⟨rfl, rfl⟩ := hr
    have hS : (s.heap.push (eSet w)).get? s.heap.objs.size = some (eSet w) := Heap.get?_push_size _ rfl
    have hT : Shared.TypeIs { s with heap := s.heap.push (eSet w) } (.ref s.heap.objs.size) "set" := ⟨_, hS, rfl⟩
    have m6 := F.called_set.init.lookup
    have m7 := F.called_set.init.bind (.ref s.heap.objs.size)
    repeat (any_goals (first | assumption | wp_step))
    refine codeAny_mono (codeAny_call_builtin (R := wants (fun r s2 => r = .none ∧ SetDone P w s ks s2) E) F.called_set.init.plain F.entry_set_init (check_set_init_1 hT ?_)) ?_
    · obtain ⟨⟨oc, od, odt, osl⟩, hol, hcl, nl, hdl⟩ := ht
      simp only at hcl hdl
      subst hcl hdl
      have hol' : (s.heap.push (eSet w)).get? l = some { cls := .type "tuple", dict := od, data := .seq its nl, slots := osl } := Heap.get?_push_of_some _ hol
      have n1 := F.sub_tuple_set
      have n2 := F.sub_tuple_frozenset
      have n3 : (Value.type "tuple" == Value.type "dict") = false := by decide
      have ht1 : (s.heap.push (eSet w)).IsTuple l its := ⟨_, hol', rfl, nl, rfl⟩
      unfold Builtin.«set.__init__» noKeywords Builtin.Frozenset.updateFrom
      generalize hPI : pyIter = PI
      wp_walk
      subst hPI
      refine wpAny_pyIter_tuple ht1 (wpAny_bind (wpAny_runValue ?_))
      have hl : l < s.heap.objs.size := Heap.lt_size hol
      have hz : (s.heap.push (eSet w)).objs.size = s.heap.objs.size + 1 := Heap.size_push ..
      have h3 : A.in1.in1.in1.handled = none := by simp [h0]
      have a1 : l ≠ (s.heap.push (eSet w)).objs.size := by rw [hz]; exact Nat.ne_of_lt (Nat.lt_succ_of_lt hl)
      have a2 : s.heap.objs.size ∉ [(s.heap.push (eSet w)).objs.size, l] := by
        rw [hz]
        intro q
        rcases List.mem_cons.mp q with q | q
        · exact absurd q (Nat.ne_of_lt (Nat.lt_succ_self _))
        · exact absurd (List.mem_singleton.mp q) (Nat.ne_of_gt hl)
      have pick : ∀ (i : Nat) (v : Value), its[i]? = some v → ∃ p, ks[i]? = some p ∧ v = .ref p.1 := by
        intro i v e
        have q : its.toList[i]? = some v := by rw [Array.getElem?_toList]; exact e
        rw [hv, List.getElem?_map] at q
        obtain ⟨p, hp, ep⟩ := Option.map_eq_some_iff.mp q
        exact ⟨p, hp, ep.symm⟩
      refine set_update_tups ((Walks.tuple h3 _ l a1 its).toS) s.heap.objs.size a2 ks hsz hf pick s.heap hk (gone (Nat.le_refl _)) (fun b hb => gone ?_) hu (its.size - 0) 0 _ (by omega) (Nat.zero_le _)
        ⟨⟨_, Heap.get?_push_size _ rfl, rfl, rfl⟩, ht1.push _⟩ (fun b o e => Heap.get?_push_of_some _ (Heap.get?_push_of_some _ e)) ⟨[], #[], 0, _, setTR_fresh (Heap.get?_push_of_some _ hS), Got.zero ks⟩ ?_
      · rw [List.mem_singleton.mp hb, hz]
        exact Nat.le_succ _
      · rintro ⟨h', g2, d', tk', os'⟩ L es ep t hm hS' g' hkp
        have e1 : g2 = s.gens := hm.gens
        have e2 : d' = s.drawn := hm.drawn
        have e3 : os' = s.os := hm.os
        subst e1 e2 e3
        rw [hsz] at g'
        show wpAny _ _ _ _ _ _
        refine wpAny_pure ?_
        show wpAny _ _ (ret Value.none) _ _ _
        exact wpAny_pure ⟨rfl, h', tk', L, es, ep, t, rfl, hS', g', hkp⟩
    · rintro (e | fl2) s2 hr2
      · exact hr2
      cases fl2 with
      | ret r =>
        obtain ⟨rfl, done⟩ := hr2
        repeat (any_goals (first | assumption | wp_step))
        exact fin _ done
      | _ => exact hr2.elim
  | _ => exact hr.elim
end
section
variable {X : Cx}
def rSetTT (K : PySem.W.Frag) (P : Program) (w : World) : List V → Hp → VK → Prop := fun xs H Q => ∃ (l : Addr) (ks : List (Addr × List Int)), xs = [V.ref l] ∧ SqT K H l (ks.map fun p => V.ref p.1) ∧ (∀ p ∈ ks, SqT K H p.1 (p.2.map V.int)) ∧ ks.length < 64 ∧
  ∀ a L, H a = none → (∀ p ∈ L, p ∈ ks) → (∀ p ∈ ks, p.2 ∈ L.map (·.2)) → Q (.ref a) (upd H a (SetTO P w a L))
theorem cr_setTT (hc : X.calm = true) (hu : X.A.units + 64 < cLine) : CallR X (.type "set") (rSetTT X.K X.prog X.w) := by
  intro pins s σ H xs us Q I r h
  obtain ⟨l, ks, rfl, hl, hk, hf, q⟩ := h
  obtain rfl := Vals.ref1 r
  obtain ⟨its, rv, ⟨ot, hot, hct, nt, hdt⟩, hz⟩ := I.tuple hl
  refine set_of_tuple (P := X.prog) (w := X.w) ks (I.ok.hd hc) ⟨ot, hot, hct, nt, hdt⟩ (by simpa using refs_of_vals rv) (fun p hp => I.isT (hk p hp)) hf (by omega) ?_
  rintro _ ⟨h', tk, L, es, ep, t, rfl, R, g, k⟩
  have hn : H s.heap.objs.size = none := I.hok.fresh (Nat.le_refl _)
  refine ⟨.ref s.heap.objs.size, _, I.laid (t' := tk) k (Nat.le_refl _) (setTO_new R.t0), rfl, q _ L hn ?_ ?_⟩
  · intro p hp
    exact List.mem_of_mem_take (g.sub p hp)
  · intro p hp
    refine g.all p ?_
    rw [List.take_length]
    exact hp
end
end SW0
/-! B0: the text by places; data over the heap; small lemmas. -/
namespace SW
open PySem PySem.Spec PyProof.Rows L2 SW0 SWM
def top (i : Nat) : Stmt := PySem.Challenge.pw_sharewell_k45_whole_least_trees.main.body.getD i (.Pass ⟨0, 0, 0, 0⟩)

/-! ### a def of the text, to be called by its name -/
structure Df (K : PySem.W.Frag) (mg : Str → Option Value) (x : Str) (st : Stmt) (ps : List Str) : Prop where
  ex : ∃ f fd, Fun K x x st f fd ∧ mg x = some (.ref f) ∧ Binds K fd ps []
structure Cal (P : Program) (w : World) (K : PySem.W.Frag) (mg : Str → Option Value) (base : Heap) (k : Nat) (x : Str) (sp : Sp) : Prop where
  ex : ∃ f fd ps, FnOk P w K mg base CX0 k f fd ps sp ∧ mg x = some (.ref f) ∧ PySem.W.keepIn K (.ref f) = true ∧ Binds K fd ps []
section
variable {P : Program} {w : World} {K : PySem.W.Frag} {mg : Str → Option Value} {base : Heap}
theorem cal_of {x : Str} {st : Stmt} {ps N : List Str} {k : Nat} {sp : Sp} (D : Df K mg x st ps) (S : FnScope N ps (defScope st)) (len : ∀ vs H Q E, sp vs H Q E → vs.length = ps.length)
    (body : ∀ (f : Addr) (cdv : Value) (A : Around) (outer : List Env) (s : Shared) (H : Hp) (vs : List V) (Q : VK) (E : XK), Room k (A.deeper (envOfC x (defScope st) s.heap.objs.size f cdv)) → sp vs H Q E →
      ∃ t, PSs (cxOf CX0 P w K mg base N x (defScope st) f cdv A outer s H E).nox (defBody st) t ∧ t { nx := fun _ H' => Q .non H', rt := Q } (start N vs) H) : Cal P w K mg base (k + 1) x sp := by
  obtain ⟨f, fd, F, hm, b⟩ := D.ex
  exact ⟨f, fd, ps, F.ok S len fun cdv A outer s H vs Q E hr h => body f cdv A outer s H vs Q E hr h, hm, F.kp, b⟩
theorem Cal.up {x : Str} {k j : Nat} {sp : Sp} (c : Cal P w K mg base k x sp) (h : k ≤ j) : Cal P w K mg base j x sp := by
  obtain ⟨f, fd, ps, F, r⟩ := c.ex
  exact ⟨f, fd, ps, F.mono h, r⟩
end
/-- a call of such a def -/
theorem pc {X : Cx} {k j : Nat} {x : Str} {sp : Sp} {p pos : Pos} {e : Expr} {es : List Expr} {t : TA} (c : Cal X.prog X.w X.K X.mg X.base k x sp) (hr : Room j X.A) (hk : k ≤ j) (ha : PA X (e :: es) t)
    (hg : Gl X x := by rfl) (hdb : (x == ("__debug__" : Str)) = false := by decide) (he : starEach (e :: es) X.env = (false, eval e X.env) :: starEach es X.env := by rfl) (hpl : (backTo pos (starEach es X.env)).any (·.1) = false := by rfl) :
    PE X (.Call (.Name x p) (e :: es) [] pos) (tCall sp [] E0 t) := by
  obtain ⟨f, fd, ps, F, hm, kp, b⟩ := c.ex
  exact pe_call F (hr.mono hk) hg hm kp b .nil pass0 ha hdb he hpl

/-! ### heaps -/
theorem same_new {H : Hp} {p : Addr} {o : HO} (h : H p = none) : Same H (upd H p o) := fun b x e => by
  rw [upd_ne (ne_of_none e h)]
  exact e
theorem same_set {H0 H : Hp} {p : Addr} {o : HO} (s : Same H0 H) (h : H0 p = none) : Same H0 (upd H p o) := fun b x e => by
  rw [upd_ne (ne_of_none e h)]
  exact s _ _ e
theorem same_add {H0 H : Hp} {p : Addr} {o : HO} (s : Same H0 H) (h : H p = none) : Same H0 (upd H p o) := s.trans (same_new h)
theorem same_seqT {K : PySem.W.Frag} {H H' : Hp} {a : Addr} {xs : List V} (e : Same H H') (h : SqT K H a xs) : SqT K H' a xs := by
  rcases h with (h | ⟨o, h⟩) | h
  · exact .inl (.inl (e _ _ h))
  · exact .inl (.inr ⟨o, e _ _ h⟩)
  · exact .inr h
/-- tuples stay (lists and dicts may change) -/
def SameT (H H' : Hp) : Prop := ∀ b xs, (H b = some (.tup xs) → H' b = some (.tup xs)) ∧ ∀ o, H b = some (.frz o (.tup xs)) → H' b = some (.frz o (.tup xs))
theorem SameT.refl (H : Hp) : SameT H H := fun _ _ => ⟨id, fun _ => id⟩
theorem SameT.trans {H H1 H2 : Hp} (a : SameT H H1) (b : SameT H1 H2) : SameT H H2 := fun c xs => ⟨fun h => (b c xs).1 ((a c xs).1 h), fun o h => (b c xs).2 o ((a c xs).2 o h)⟩
theorem same_T {H H' : Hp} (s : Same H H') : SameT H H' := fun b xs => ⟨s b _, fun o => s b _⟩
theorem sameT_lst {H : Hp} {p : Addr} {o : HO} {xs : List V} (h : H p = some (.lst xs)) : SameT H (upd H p o) := fun b ys => by
  refine ⟨fun e => ?_, fun z e => ?_⟩
  · rw [upd_ne (ne_of e h (by intro q; cases q))]
    exact e
  · rw [upd_ne (ne_of e h (by intro q; cases q))]
    exact e
theorem sameT_dK {H : Hp} {p : Addr} {o : HO} {xs : List (Key × V)} (h : H p = some (.dK xs)) : SameT H (upd H p o) := fun b ys => by
  refine ⟨fun e => ?_, fun z e => ?_⟩
  · rw [upd_ne (ne_of e h (by intro q; cases q))]
    exact e
  · rw [upd_ne (ne_of e h (by intro q; cases q))]
    exact e
theorem sameT_new {H : Hp} {p : Addr} {o : HO} (h : H p = none) : SameT H (upd H p o) := same_T (same_new h)
theorem sameT_seqT {K : PySem.W.Frag} {H H' : Hp} {a : Addr} {xs : List V} (e : SameT H H') (h : SqT K H a xs) : SqT K H' a xs := by
  rcases h with (h | ⟨o, h⟩) | h
  · exact .inl (.inl ((e _ _).1 h))
  · exact .inl (.inr ⟨o, (e _ _).2 o h⟩)
  · exact .inr h

end SW
namespace L2
open PySem PySem.Spec PyProof.Rows SW0 SWM SW
/-! ### data -/
mutual
def nl : PyData → Bool
  | .list _ => false
  | .tuple ds => nlAll ds
  | _ => true
def nlAll : List PyData → Bool
  | [] => true
  | d :: ds => nl d && nlAll ds
end
section
variable {K : PySem.W.Frag} {H H' : Hp}
mutual
theorem Dp.sameT (e : SameT H H') : ∀ (d : PyData) {v : V}, nl d = true → Dp K H v d → Dp K H' v d
  | .none, _, _, h => by cases h; exact .non
  | .bool b, _, _, h => by cases h; exact .bl b
  | .int i, _, _, h => by cases h; exact .int i
  | .str x, _, _, h => by cases h; exact .str x
  | .list _, _, n, _ => by simp [nl] at n
  | .tuple ds, _, n, h => by
    cases h with
    | tup hs ha => exact .tup (sameT_seqT e hs) (DpAll.sameT e ds (by simpa [nl] using n) ha)
  | .dict _, _, _, h => by cases h
theorem DpAll.sameT (e : SameT H H') : ∀ (ds : List PyData) {vs : List V}, nlAll ds = true → DpAll K H vs ds → DpAll K H' vs ds
  | [], _, _, h => by cases h; exact .nil
  | d :: ds, _, n, h => by
    cases h with
    | cons h1 h2 =>
      simp only [nlAll, Bool.and_eq_true] at n
      exact .cons (Dp.sameT e d n.1 h1) (DpAll.sameT e ds n.2 h2)
end
mutual
theorem Dp.same (e : Same H H') : ∀ (d : PyData) {v : V}, Dp K H v d → Dp K H' v d
  | .none, _, h => by cases h; exact .non
  | .bool b, _, h => by cases h; exact .bl b
  | .int i, _, h => by cases h; exact .int i
  | .str x, _, h => by cases h; exact .str x
  | .list ds, _, h => by
    cases h with
    | lst hs ha => exact .lst (e.seq hs) (DpAll.same e ds ha)
  | .tuple ds, _, h => by
    cases h with
    | tup hs ha => exact .tup (same_seqT e hs) (DpAll.same e ds ha)
  | .dict _, _, h => by cases h
theorem DpAll.same (e : Same H H') : ∀ (ds : List PyData) {vs : List V}, DpAll K H vs ds → DpAll K H' vs ds
  | [], _, h => by cases h; exact .nil
  | d :: ds, _, h => by
    cases h with
    | cons h1 h2 => exact .cons (Dp.same e d h1) (DpAll.same e ds h2)
end
theorem DpAll.len : ∀ {vs : List V} {ds : List PyData}, DpAll K H vs ds → vs.length = ds.length
  | _, _, .nil => rfl
  | _, _, .cons _ h => congrArg (· + 1) (DpAll.len h)
theorem DpAll.get : ∀ {vs : List V} {ds : List PyData} {i : Nat} {v : V}, DpAll K H vs ds → vs[i]? = some v → ∃ d, ds[i]? = some d ∧ Dp K H v d
  | _, _, _, _, .nil, e => by simp at e
  | _, _, 0, _, .cons h _, e => by simp at e; subst e; exact ⟨_, rfl, h⟩
  | _, _, i + 1, v, .cons _ t, e => by
    obtain ⟨d, h1, h2⟩ := DpAll.get (i := i) (v := v) t (by simpa using e)
    exact ⟨d, by simpa using h1, h2⟩
theorem DpAll.at : ∀ {vs : List V} {ds : List PyData} {i : Nat} {d : PyData}, DpAll K H vs ds → ds[i]? = some d → ∃ v, vs[i]? = some v ∧ Dp K H v d
  | _, _, _, _, .nil, e => by simp at e
  | _, _, 0, _, .cons h _, e => by simp at e; subst e; exact ⟨_, rfl, h⟩
  | _, _, i + 1, d, .cons _ t, e => by
    obtain ⟨v, h1, h2⟩ := DpAll.at (i := i) (d := d) t (by simpa using e)
    exact ⟨v, by simpa using h1, h2⟩
theorem DpAll.app : ∀ {vs us : List V} {ds es : List PyData}, DpAll K H vs ds → DpAll K H us es → DpAll K H (vs ++ us) (ds ++ es)
  | _, _, _, _, .nil, h => h
  | _, _, _, _, .cons h t, q => .cons h (DpAll.app t q)
theorem DpAll.one {v : V} {d : PyData} (h : Dp K H v d) : DpAll K H [v] [d] := .cons h .nil
theorem DpAll.drop : ∀ {vs : List V} {ds : List PyData} (n : Nat), DpAll K H vs ds → DpAll K H (vs.drop n) (ds.drop n)
  | _, _, 0, h => h
  | _, _, _ + 1, .nil => .nil
  | _, _, n + 1, .cons _ t => DpAll.drop n t
theorem DpAll.take : ∀ {vs : List V} {ds : List PyData} (n : Nat), DpAll K H vs ds → DpAll K H (vs.take n) (ds.take n)
  | _, _, 0, _ => .nil
  | _, _, _ + 1, .nil => .nil
  | _, _, n + 1, .cons h t => .cons h (DpAll.take n t)
theorem DpAll.rev : ∀ {vs : List V} {ds : List PyData}, DpAll K H vs ds → DpAll K H vs.reverse ds.reverse
  | _, _, .nil => .nil
  | _, _, .cons h t => by
    rw [List.reverse_cons, List.reverse_cons]
    exact (DpAll.rev t).app (.one h)
theorem dp_ints : ∀ (ns : List Int), DpAll K H (ns.map V.int) (ns.map PyData.int)
  | [] => .nil
  | n :: ns => .cons (.int n) (dp_ints ns)
theorem dp_ints_eq : ∀ {ns : List Int} {vs : List V}, DpAll K H vs (ns.map PyData.int) → vs = ns.map V.int
  | [], _, h => by cases h; rfl
  | n :: ns, _, h => by
    cases h with
    | cons h1 h2 =>
      cases h1
      rw [dp_ints_eq h2]
      rfl
theorem Dp.tupI {v : V} {ds : List PyData} (h : Dp K H v (.tuple ds)) : ∃ a xs, v = .ref a ∧ SqT K H a xs ∧ DpAll K H xs ds := by
  cases h with
  | tup hs ha => exact ⟨_, _, rfl, hs, ha⟩
theorem Dp.intI {v : V} {i : Int} (h : Dp K H v (.int i)) : v = .int i := by
  cases h
  rfl
/-- a rearranged list of data -/
theorem DpAll.perm {α : Type} (f : α → PyData) {vs us : List V} (p : us.Perm vs) : ∀ {l : List α}, DpAll K H vs (l.map f) → ∃ l' : List α, l'.Perm l ∧ DpAll K H us (l'.map f) := by
  induction p with
  | nil => exact fun {l} h => ⟨l, .refl _, h⟩
  | cons x _ ih =>
    intro l h
    cases l with
    | nil => cases h
    | cons a l =>
      cases h with
      | cons h1 h2 =>
        obtain ⟨l', q, r⟩ := ih h2
        exact ⟨a :: l', q.cons a, .cons h1 r⟩
  | swap x y l0 =>
    intro l h
    cases l with
    | nil => cases h
    | cons a l =>
      cases h with
      | cons h1 h2 =>
        cases l with
        | nil => cases h2
        | cons b l =>
          cases h2 with
          | cons h2 h3 => exact ⟨b :: a :: l, .swap a b l, .cons h2 (.cons h1 h3)⟩
  | trans _ _ ih1 ih2 =>
    intro l h
    obtain ⟨l1, q1, r1⟩ := ih2 h
    obtain ⟨l2, q2, r2⟩ := ih1 r1
    exact ⟨l2, q2.trans q1, r2⟩
/-- an order of the values is an order of the data -/
theorem DpAll.pw {α : Type} {f : α → PyData} {Rv : V → V → Prop} {Ra : α → α → Prop} : ∀ {vs : List V} {l : List α}, DpAll K H vs (l.map f) → vs.Pairwise Rv → (∀ u v a b, Dp K H u (f a) → Dp K H v (f b) → Rv u v → Ra a b) → l.Pairwise Ra
  | _, [], _, _, _ => .nil
  | vs, a :: l, h, p, k => by
    cases h with
    | cons h1 h2 =>
      rw [List.pairwise_cons] at p
      refine .cons (fun b hb => ?_) (DpAll.pw h2 p.2 k)
      obtain ⟨i, hi, e⟩ := List.getElem_of_mem hb
      obtain ⟨v, hv, hd⟩ := DpAll.at (i := i) (d := f b) h2 (by rw [List.getElem?_map, List.getElem?_eq_getElem hi, e]; rfl)
      exact k _ _ _ _ h1 hd (p.1 v (List.mem_of_getElem? hv))
end
end L2
namespace SW
open PySem PySem.Spec PyProof.Rows L2 SW0 SWM
def pD (p : Int × Int) : PyData := .tuple [.int p.1, .int p.2]
def eD (e : Ed) : PyData := .tuple [.int e.1, .int e.2.1, .int e.2.2]
def rD (r : List Int) : PyData := .tuple (r.map .int)
def wD (ws : Ws) : PyData := .tuple (ws.map rD)
def tD (t : List (Int × Int)) : PyData := .tuple (t.map pD)
theorem nl_ints : ∀ ns : List Int, nlAll (ns.map .int) = true
  | [] => rfl
  | n :: ns => by simp [nlAll, nl, nl_ints ns]
theorem nl_all {α : Type} {f : α → PyData} (h : ∀ a, nl (f a) = true) : ∀ l : List α, nlAll (l.map f) = true
  | [] => rfl
  | a :: l => by simp [nlAll, h a, nl_all h l]
theorem nl_p (p : Int × Int) : nl (pD p) = true := by simp [pD, nl, nlAll]
theorem nl_e (e : Ed) : nl (eD e) = true := by simp [eD, nl, nlAll]
theorem nl_r (r : List Int) : nl (rD r) = true := by
  unfold rD nl
  exact nl_ints r
theorem nl_w (ws : Ws) : nl (wD ws) = true := by
  unfold wD nl
  exact nl_all nl_r ws
theorem nl_t (t : List (Int × Int)) : nl (tD t) = true := by
  unfold tD nl
  exact nl_all nl_p t
section
variable {K : PySem.W.Frag} {H H' : Hp}
theorem w_row {v : V} {ws : Ws} (h : Dp K H v (wD ws)) : ∃ a xs, v = .ref a ∧ SqT K H a xs ∧ xs.length = ws.length ∧ ∀ (i : Nat) r, ws[i]? = some r → ∃ b, xs[i]? = some (.ref b) ∧ SqT K H b (r.map V.int) := by
  obtain ⟨a, xs, rfl, hs, ha⟩ := h.tupI
  refine ⟨a, xs, rfl, hs, by rw [ha.len, List.length_map], fun i r e => ?_⟩
  obtain ⟨u, hu, hd⟩ := ha.at (i := i) (d := rD r) (by rw [List.getElem?_map, e]; rfl)
  obtain ⟨b, ys, rfl, hb, hy⟩ := hd.tupI
  rw [dp_ints_eq hy] at hb
  exact ⟨b, hu, hb⟩
theorem e_tup {v : V} {e : Ed} (h : Dp K H v (eD e)) : ∃ t, v = .ref t ∧ SqT K H t [.int e.1, .int e.2.1, .int e.2.2] := by
  obtain ⟨a, xs, rfl, hs, ha⟩ := h.tupI
  cases ha with
  | cons h1 h2 =>
    cases h2 with
    | cons h2 h3 =>
      cases h3 with
      | cons h3 h4 =>
        cases h4
        cases h1
        cases h2
        cases h3
        exact ⟨a, rfl, hs⟩
theorem p_tup {v : V} {p : Int × Int} (h : Dp K H v (pD p)) : ∃ t, v = .ref t ∧ SqT K H t [.int p.1, .int p.2] := by
  obtain ⟨a, xs, rfl, hs, ha⟩ := h.tupI
  cases ha with
  | cons h1 h2 =>
    cases h2 with
    | cons h2 h3 =>
      cases h3
      cases h1
      cases h2
      exact ⟨a, rfl, hs⟩
theorem mk_e {t : Addr} {e : Ed} (h : SqT K H t [.int e.1, .int e.2.1, .int e.2.2]) : Dp K H (.ref t) (eD e) := .tup h (.cons (.int _) (.cons (.int _) (.cons (.int _) .nil)))
theorem mk_p {t : Addr} {p : Int × Int} (h : SqT K H t [.int p.1, .int p.2]) : Dp K H (.ref t) (pD p) := .tup h (.cons (.int _) (.cons (.int _) .nil))
end
theorem sizeS {n : Nat} (h : n ≤ 4000000) : n < sizeLine := by
  rw [sizeLine_eq]
  omega
end SW
/-! B1: whole, within, tuple_of, cost_between, all_places. -/
namespace SW
open PySem PySem.Spec PyProof.Rows L2 SW0 SWM
structure Bi (mg : Str → Option Value) : Prop where
  isi : mg "isinstance" = none
  int : mg "int" = none
  bool : mg "bool" = none
  str : mg "str" = none
  tuple : mg "tuple" = none
  list : mg "list" = none
  set : mg "set" = none
  len : mg "len" = none
  range : mg "range" = none
  enum : mg "enumerate" = none
  all : mg "all" = none
  max : mg "max" = none
  min : mg "min" = none
  sum : mg "sum" = none
  sorted : mg "sorted" = none
  abs : mg "abs" = none
section
variable {P : Program} {w : World} {K : PySem.W.Frag} {mg : Str → Option Value} {base : Heap}
/-! ### types -/
theorem ty_tup {H : Hp} {a : Addr} {xs : List V} (h : SqT K H a xs) : TyX K H (.ref a) (.type "tuple") := by
  rcases h with (h | ⟨o, h⟩) | ⟨o, its, n, hk, hc, _⟩
  · exact .base (.tup h)
  · exact .fTuple h
  · exact .kTuple hk hc
theorem ty_lst {H : Hp} {a : Addr} {xs : List V} (h : SqL K H a xs) : TyX K H (.ref a) (.type "list") := by
  rcases h with (h | ⟨o, h⟩) | ⟨o, its, n, hk, hc, _⟩
  · exact .base (.lst h)
  · exact .base (.frz h)
  · exact .kList hk hc
/-! ### whole -/
abbrev sWhole : Stmt := top 4
theorem scWhole : FnScope ["value"] ["value"] (defScope sWhole) := ⟨rfl, rfl, rfl, by decide +kernel, rfl, by decide +kernel, by decide +kernel⟩
def spWhole : Sp := fun vs H Q _ => (∃ i, vs = [.int i] ∧ Q (.bl true) H) ∨ ∃ b, vs = [.bl b] ∧ Q (.bl false) H
theorem ok_whole (B : Bi mg) (D : Df K mg "whole" sWhole ["value"]) : Cal P w K mg base 1 "whole" spWhole := by
  refine cal_of D scWhole (fun vs H Q E h => ?_) (fun f cdv A outer s H vs Q E hr h => ?_)
  · rcases h with ⟨i, rfl, _⟩ | ⟨b, rfl, _⟩ <;> rfl
  refine ⟨_, pss_one (ps_ret (pe_and (pe_callB call_isi (by rfl) B.isi (by decide +kernel) (pa_cons (pv 0) (pa_cons (pe_bltn (v := .ty "int") (by rfl) B.int (by decide +kernel) rfl) pa_nil)))
    (pe_one (pe_not (pe_callB call_isi (by rfl) B.isi (by decide +kernel) (pa_cons (pv 0) (pa_cons (pe_bltn (v := .ty "bool") (by rfl) B.bool (by decide +kernel) rfl) pa_nil))))))), ?_⟩
  rcases h with ⟨i, rfl, q⟩ | ⟨b, rfl, q⟩
  · refine ⟨_, rfl, _, _, _, _, true, rfl, .ty _, .base (.int i), kit_ty (by decide +kernel), true, rfl, iteT ?_⟩
    exact ⟨_, rfl, _, _, _, _, false, rfl, .ty _, .base (.int i), kit_ty (by decide +kernel), false, rfl, q⟩
  · refine ⟨_, rfl, _, _, _, _, true, rfl, .ty _, .base (.bl b), kit_ty (by decide +kernel), true, rfl, iteT ?_⟩
    exact ⟨_, rfl, _, _, _, _, true, rfl, .ty _, .base (.bl b), kit_ty (by decide +kernel), true, rfl, q⟩
/-! ### within -/
abbrev sWithin : Stmt := top 5
theorem scWithin : FnScope ["value", "low", "high"] ["value", "low", "high"] (defScope sWithin) := ⟨rfl, rfl, rfl, by decide +kernel, rfl, by decide +kernel, by decide +kernel⟩
def spWithin : Sp := fun vs H Q _ => ∃ x lo hi, vs = [x, .int lo, .int hi] ∧ ((∃ i, x = .int i ∧ Q (.bl (decide (lo ≤ i) && decide (i ≤ hi))) H) ∨ ∃ b, x = .bl b ∧ Q (.bl false) H)
theorem ok_within (D : Df K mg "within" sWithin ["value", "low", "high"]) (cW : Cal P w K mg base 1 "whole" spWhole) : Cal P w K mg base 2 "within" spWithin := by
  refine cal_of D scWithin (fun vs H Q E h => ?_) (fun f cdv A outer s H vs Q E hr h => ?_)
  · obtain ⟨x, lo, hi, rfl, _⟩ := h
    rfl
  obtain ⟨x, lo, hi, rfl, h⟩ := h
  refine ⟨_, pss_one (ps_ret (pe_and (pc cW hr (by decide) (pa_cons (pv 0) pa_nil)) (pe_one (pe_chain op_le op_le (pv 1) (pv 0) (pv 2))))), ?_⟩
  rcases h with ⟨i, rfl, q⟩ | ⟨b, rfl, q⟩
  · refine ⟨_, rfl, .inl ⟨i, rfl, true, rfl, iteT ?_⟩⟩
    refine ⟨_, rfl, _, rfl, _, _, rfl, rfl, _, rfl, ?_⟩
    by_cases c : lo ≤ i
    · rw [decide_eq_true c] at q ⊢
      refine iteT ⟨_, rfl, _, _, rfl, rfl, ?_⟩
      exact q
    · rw [decide_eq_false c] at q ⊢
      exact iteF q
  · exact ⟨_, rfl, .inr ⟨b, rfl, false, rfl, iteF q⟩⟩
/-! ### tuple_of -/
abbrev sTupleOf : Stmt := top 6
theorem scTupleOf : FnScope ["value", "low", "high"] ["value", "low", "high"] (defScope sTupleOf) := ⟨rfl, rfl, rfl, by decide +kernel, rfl, by decide +kernel, by decide +kernel⟩
def NotTup (K : PySem.W.Frag) (H : Hp) (x : V) : Prop := ∃ t, TyX K H x t ∧ PySem.W.kitOne K t (.type "tuple") = some false
def spTupleOf (K : PySem.W.Frag) : Sp := fun vs H Q _ => ∃ x lo hi, vs = [x, .int lo, .int hi] ∧ ((∃ a xs, x = .ref a ∧ SqT K H a xs ∧ Q (.bl (decide (lo ≤ (xs.length : Int)) && decide ((xs.length : Int) ≤ hi))) H) ∨ (NotTup K H x ∧ Q (.bl false) H))
theorem ok_tupleOf (B : Bi mg) (D : Df K mg "tuple_of" sTupleOf ["value", "low", "high"]) : Cal P w K mg base 1 "tuple_of" (spTupleOf K) := by
  refine cal_of D scTupleOf (fun vs H Q E h => ?_) (fun f cdv A outer s H vs Q E hr h => ?_)
  · obtain ⟨x, lo, hi, rfl, _⟩ := h
    rfl
  obtain ⟨x, lo, hi, rfl, h⟩ := h
  refine ⟨_, pss_one (ps_ret (pe_and (pe_callB call_isi (by rfl) B.isi (by decide +kernel) (pa_cons (pv 0) (pa_cons (pe_bltn (v := .ty "tuple") (by rfl) B.tuple (by decide +kernel) rfl) pa_nil)))
    (pe_one (pe_chain op_le op_le (pv 1) (pe_callB call_len_seq (by rfl) B.len PySem.boot_len (pa_cons (pv 0) pa_nil)) (pv 2))))), ?_⟩
  rcases h with ⟨a, xs, rfl, hT, q⟩ | ⟨⟨t, ht, hk⟩, q⟩
  · refine ⟨_, rfl, _, _, _, _, true, rfl, .ty _, ty_tup hT, kit_ty (by decide +kernel), true, rfl, iteT ?_⟩
    refine ⟨_, rfl, _, rfl, a, xs, rfl, .inr hT, _, _, rfl, rfl, _, rfl, ?_⟩
    by_cases c : lo ≤ (xs.length : Int)
    · rw [decide_eq_true c] at q ⊢
      exact iteT ⟨_, rfl, _, _, rfl, rfl, q⟩
    · rw [decide_eq_false c] at q ⊢
      exact iteF q
  · exact ⟨_, rfl, _, _, _, _, false, rfl, .ty _, ht, hk, false, rfl, iteF q⟩
/-! ### cost_between -/
abbrev sCost : Stmt := top 11
theorem scCost : FnScope ["wires", "one", "other"] ["wires", "one", "other"] (defScope sCost) := ⟨rfl, rfl, rfl, by decide +kernel, rfl, by decide +kernel, by decide +kernel⟩
def spCost (K : PySem.W.Frag) : Sp := fun vs H Q _ => ∃ x ws a b, vs = [x, .int a, .int b] ∧ Dp K H x (wD ws) ∧ Good ws ∧ 0 ≤ a ∧ a < b ∧ b ≤ (ws.length : Int) ∧ Q (.int (wc ws a b)) H
theorem cost_read {K : PySem.W.Frag} {H : Hp} {x : V} {ws : Ws} {a b : Int} (hx : Dp K H x (wD ws)) (g : Good ws) (h0 : 0 ≤ a) (h1 : a < b) (h2 : b ≤ (ws.length : Int)) :
    ∃ t xs, x = .ref t ∧ SqT K H t xs ∧ ∃ c ys, atI xs (hiOf a b - 1) = some (.ref c) ∧ SqT K H c ys ∧ atI ys (loOf a b) = some (.int (wc ws a b)) := by
  obtain ⟨t, xs, rfl, hT, hl, row⟩ := w_row hx
  obtain ⟨r, e1, e2, e3, e4, _, _⟩ := wc_at g h0 h1 h2
  obtain ⟨c, hc, hR⟩ := row _ r e1
  refine ⟨t, xs, rfl, hT, c, _, ?_, hR, ?_⟩
  · have : hiOf a b - 1 = (((hiOf a b - 1).toNat : Nat) : Int) := by rw [e2]; omega
    rw [this]
    exact atI_nat hc
  · have : loOf a b = (((loOf a b).toNat : Nat) : Int) := by rw [e3]; omega
    rw [this]
    exact atI_nat (by rw [List.getElem?_map, e4]; rfl)
theorem ok_cost (B : Bi mg) (D : Df K mg "cost_between" sCost ["wires", "one", "other"]) : Cal P w K mg base 1 "cost_between" (spCost K) := by
  refine cal_of D scCost (fun vs H Q E h => ?_) (fun f cdv A outer s H vs Q E hr h => ?_)
  · obtain ⟨x, ws, a, b, rfl, _⟩ := h
    rfl
  obtain ⟨x, ws, a, b, rfl, hx, g, h0, h1, h2, q⟩ := h
  refine ⟨_, pss_one (ps_ret (pe_ix ix_tup (pe_ix ix_tup (pv 0) (pe_op op_sub (pe_callB (call_max2 rfl) (by rfl) B.max (by decide +kernel) (pa_cons (pv 1) (pa_cons (pv 2) pa_nil))) pe_int) (fun _ _ => rfl))
    (pe_callB (call_min2 rfl) (by rfl) B.min (by decide +kernel) (pa_cons (pv 1) (pa_cons (pv 2) pa_nil))) (fun _ _ => rfl))), ?_⟩
  obtain ⟨t, xs, rfl, hT, c, ys, i1, hR, i2⟩ := cost_read hx g h0 h1 h2
  exact ⟨_, rfl, _, rfl, _, rfl, _, _, rfl, _, _, rfl, rfl, _, _, _, _, rfl, rfl, hT, i1, _, rfl, _, rfl, _, _, rfl, _, _, _, _, rfl, rfl, hR, i2, q⟩
/-! ### all_places -/
abbrev sPlaces : Stmt := top 14
theorem scPlaces : FnScope ["wires"] ["wires"] (defScope sPlaces) := ⟨rfl, rfl, rfl, by decide +kernel, rfl, by decide +kernel, by decide +kernel⟩
def spPlaces (K : PySem.W.Frag) : Sp := fun vs H Q _ => ∃ x ws, vs = [x] ∧ Dp K H x (wD ws) ∧ Good ws ∧ ∀ p, H p = none → Q (.ref p) (upd H p (.lst ((places ws.length).map V.int)))
theorem rg_places {n : Nat} : rgV 0 ((n : Int) + 1) = (places n).map V.int := by
  unfold rgV places
  rw [List.map_map, show ((n : Int) + 1 - 0).toNat = n + 1 by omega]
  refine List.map_congr_left fun i _ => ?_
  show V.int (0 + (i : Int)) = V.int (i : Int)
  rw [Int.zero_add]
theorem ok_places' (B : Bi mg) (D : Df K mg "all_places" sPlaces ["wires"]) : Cal P w K mg base 1 "all_places" (spPlaces K) := by
  refine cal_of D scPlaces (fun vs H Q E h => ?_) (fun f cdv A outer s H vs Q E hr h => ?_)
  · obtain ⟨x, ws, rfl, _⟩ := h
    rfl
  obtain ⟨x, ws, rfl, hx, g, q⟩ := h
  refine ⟨_, pss_one (ps_ret (pe_listRg rfl (by rfl) B.list (prg_1 (by rfl) B.range (pe_op op_add (pe_callB call_len_seq (by rfl) B.len PySem.boot_len (pa_cons (pv 0) pa_nil)) pe_int)))), ?_⟩
  obtain ⟨t, xs, rfl, hT, hl, _⟩ := w_row hx
  have := g.hi
  refine ⟨_, rfl, t, xs, rfl, .inr hT, _, _, rfl, rfl, _, rfl, RgOk.of_le (Int.le_refl 0) (by omega) (by omega) (by omega), fun p hp => ?_⟩
  rw [hl, rg_places]
  exact q p hp
end
end SW
/-! B2: need_wires. -/
namespace SW
open PySem PySem.Spec PyProof.Rows L2 SW0 SWM
/-- for i, x in enumerate(tuple) -/
theorem for_enumT {K : PySem.W.Frag} {a : Addr} {xs : List V} {g : TG} {tb : TS} {D : Ends} {σ : L2.St} {H : Hp} (Pv : Nat → L2.St → Hp → Prop) (h0 : Pv 0 σ H) (hl : ∀ i σ H, i ≤ xs.length → Pv i σ H → SqT K H a xs)
    (hs : ∀ i x σ H T, xs[i]? = some x → Pv i σ H → H T = none → g (.ref T) σ (upd H T (.tup [.int (i : Nat), x])) fun σ2 H2 => tb { D with nx := Pv (i + 1), ct := Pv (i + 1), bk := D.nx } σ2 H2) (hd : ∀ σ H, Pv xs.length σ H → D.nx σ H) :
    ∃ W : Nat → Nat → L2.St → Hp → Prop, (∃ m, W 0 m σ H) ∧ ∀ i m σ H, W i m σ H →
      ((IteT K a).stop i H ∧ D.nx σ H) ∨ ((IteT K a).go i H ∧ ∃ N : L2.St → Hp → Prop, (∀ σ' H', N σ' H' → ∃ m', m' < m ∧ W (i + 1) m' σ' H') ∧ ∀ x H', (IteT K a).yld i H x H' → g x σ H' fun σ2 H2 => tb { D with nx := N, ct := N, bk := D.nx } σ2 H2) := by
  refine ⟨fun i m σ H => m + i = xs.length ∧ Pv i σ H, ⟨xs.length, rfl, h0⟩, ?_⟩
  rintro i m σ H ⟨hm, p⟩
  have q := hl i σ H (by omega) p
  rcases Nat.eq_zero_or_pos m with z | z
  · have e : i = xs.length := by omega
    subst e
    exact .inl ⟨⟨xs, q, Nat.le_refl _⟩, hd σ H p⟩
  · have hlt : i < xs.length := by omega
    refine .inr ⟨⟨xs, xs[i], q, List.getElem?_eq_getElem hlt⟩, Pv (i + 1), fun σ' H' p' => ⟨m - 1, by omega, by omega, p'⟩, ?_⟩
    rintro x H' ⟨T, y, rfl, nT, rfl, k⟩
    exact hs i y σ H T (k xs q) p nT
/-- {k: v for target in a list} -/
theorem dc_lst {K : PySem.W.Frag} {a : Addr} {xs : List V} {g : TG} {tt : TT} {tk tv : TE} {vs : List Nat} {σ : L2.St} {H1 : Hp} {D : Addr} {Qd : Hp → Prop} (Pv : Nat → Hp → Prop) (h0 : Pv 0 (upd H1 D (.dK []))) (hl : ∀ i H, i ≤ xs.length → Pv i H → SqL K H a xs)
    (hs : ∀ i x H, xs[i]? = some x → Pv i H → g x (wipe σ vs) H fun σ2 H2 => wipe σ2 vs = wipe σ vs ∧ tt σ2 H2 fun b H3 =>
      if b = true then tk σ2 H3 fun y H4 => tv σ2 H4 fun z H5 => ∃ kvs k, y = kV k ∧ H5 D = some (.dK kvs) ∧ kvs.length < sizeLine ∧ Pv (i + 1) (upd H5 D (.dK (putK kvs k z))) else Pv (i + 1) H3) (hd : ∀ H, Pv xs.length H → Qd H) :
    ∃ W : Nat → Nat → Hp → Prop, (∃ m, W 0 m (upd H1 D (.dK []))) ∧ ∀ i m H, W i m H →
      ((Itl K a).stop i H ∧ Qd H) ∨ ((Itl K a).go i H ∧ ∃ Nx : Hp → Prop, (∀ H', Nx H' → ∃ m', m' < m ∧ W (i + 1) m' H') ∧ ∀ x H', (Itl K a).yld i H x H' → g x (wipe σ vs) H' fun σ2 H2 => wipe σ2 vs = wipe σ vs ∧ tt σ2 H2 fun b H3 =>
        if b = true then tk σ2 H3 fun y H4 => tv σ2 H4 fun z H5 => ∃ kvs k, y = kV k ∧ H5 D = some (.dK kvs) ∧ kvs.length < sizeLine ∧ Nx (upd H5 D (.dK (putK kvs k z))) else Nx H3) := by
  refine ⟨fun i m H => m + i = xs.length ∧ Pv i H, ⟨xs.length, rfl, h0⟩, ?_⟩
  rintro i m H ⟨hm, p⟩
  have q := hl i H (by omega) p
  rcases Nat.eq_zero_or_pos m with z | z
  · have e : i = xs.length := by omega
    subst e
    exact .inl ⟨⟨xs, q, Nat.le_refl _⟩, hd H p⟩
  · have hlt : i < xs.length := by omega
    refine .inr ⟨⟨xs, xs[i], q, List.getElem?_eq_getElem hlt⟩, Pv (i + 1), fun H' p' => ⟨m - 1, by omega, by omega, p'⟩, ?_⟩
    rintro x H' ⟨rfl, k⟩
    exact hs i x _ (k xs q) p
section
variable {P : Program} {w : World} {K : PySem.W.Frag} {mg : Str → Option Value} {base : Heap}
abbrev sNeed : Stmt := top 10
abbrev nNeed : List Str := ["value", "index", "row", "cost"]
theorem scNeed : FnScope nNeed ["value"] (defScope sNeed) := ⟨rfl, rfl, rfl, by decide +kernel, rfl, by decide +kernel, by decide +kernel⟩
def spNeed (K : PySem.W.Frag) : Sp := fun vs H Q _ => ∃ x ws, vs = [x] ∧ Dp K H x (wD ws) ∧ Good ws ∧ ∀ H', Same H H' → Q .non H'
theorem both_true {a b : Prop} [Decidable a] [Decidable b] (h1 : a) (h2 : b) : (decide a && decide b) = true := by
  rw [decide_eq_true h1, decide_eq_true h2]
  rfl
theorem rep_map (n : Nat) (b : Bool) : (List.replicate n b).map V.bl = List.replicate n (V.bl b) := List.map_replicate
theorem rep_all (n : Nat) : (List.replicate n true).all id = true := by
  rw [List.all_eq_true]
  intro x hx
  rw [(List.mem_replicate.mp hx).2]
  rfl
theorem rep_next (n : Nat) (v : V) : List.replicate n v ++ [v] = List.replicate (n + 1) v := by rw [List.replicate_succ']
theorem ok_need (B : Bi mg) (D : Df K mg "need_wires" sNeed ["value"]) (cT : Cal P w K mg base 1 "tuple_of" (spTupleOf K)) (cW : Cal P w K mg base 2 "within" spWithin) {t1 t2 : Tok} (gH : mg "MOST_HOUSES" = some (.int 6 t1)) (gC : mg "MOST_COST" = some (.int 999 t2)) :
    Cal P w K mg base 3 "need_wires" (spNeed K) := by
  refine cal_of D scNeed (fun vs H Q E h => ?_) (fun f cdv A outer s H vs Q E hr h => ?_)
  · obtain ⟨x, ws, rfl, _⟩ := h
    rfl
  obtain ⟨x, ws, rfl, hx, g, q⟩ := h
  refine ⟨_, pss_cons (ps_if (pt_not (pt_val (pc cT hr (by decide) (pa_cons (pv 0) (pa_cons pe_int (pa_cons (pe_glob (v := .int 6) (by rfl) gH ⟨_, rfl⟩) pa_nil)))))) (pss_one ps_never) pss_nil)
    (pss_one (ps_for PassesOwn.never rfl (pi_enumT (by rfl) B.enum (pa_cons (pv 0) pa_nil)) (pg_tup rfl (pgs_cons (pg_name (i := 1) scNeed.nd rfl (.inl rfl)) (pgs_cons (pg_name (i := 2) scNeed.nd rfl (.inl rfl)) pgs_nil)))
      (pss_one (ps_if (PW.pt (pw_or (pt_not (pt_val (pc cT hr (by decide) (pa_cons (pv 2) (pa_cons (pe_op op_add (pv 1) pe_int) (pa_cons (pe_op op_add (pv 1) pe_int) pa_nil))))))
          (pw_or1 (pt_not (pt_val (pe_callB (cr_all rfl) (by rfl) B.all (by decide +kernel) (pa_cons
            (pe_lc (own := [("cost", 3)]) (g := gName 3) (tt := tYes) rfl scNeed.nd (pi_tup (pv 2)) (blkOk_by (N := nNeed) (sc := defScope sNeed) (by decide +kernel)) (fun _ _ _ _ _ => pg_name (i := 3) scNeed.nd rfl (Or.inl rfl)) (fun _ _ _ _ _ => pts_nil)
              (fun _ _ _ _ _ => pc cW hr (by decide) (pa_cons (pv 3) (pa_cons pe_int (pa_cons (pe_glob (v := .int 999) (by rfl) gC ⟨_, rfl⟩) pa_nil))))) pa_nil))))))) (pss_one ps_never) pss_nil)))), ?_⟩
  obtain ⟨a, xs, rfl, hT, hl, row⟩ := w_row hx
  have g1 := g.lo
  have g2 := g.hi
  refine ⟨_, rfl, _, _, _, rfl, .inl ⟨a, xs, rfl, hT, _, rfl, ?_⟩⟩
  rw [both_true (a := (1 : Int) ≤ (xs.length : Int)) (b := (xs.length : Int) ≤ 6) (by omega) (by omega)]
  refine iteF ?_
  refine ⟨_, rfl, a, xs, rfl, hT, for_enumT (K := K) (a := a) (xs := xs) (fun i σ H' => ∃ s1 s2 s3, σ = [some (.ref a), s1, s2, s3] ∧ Same H H') ⟨none, none, none, rfl, .refl H⟩ (fun i σ H' _ ⟨_, _, _, _, sm⟩ => same_seqT sm hT) ?_ ?_⟩
  · rintro i y σ H1 T hi ⟨s1, s2, s3, rfl, sm⟩ nT
    have hi' : i < ws.length := by
      rw [← hl]
      exact (List.getElem?_eq_some_iff.mp hi).1
    obtain ⟨b, hb, hR⟩ := row i ws[i] (List.getElem?_eq_getElem hi')
    have ey : y = .ref b := Option.some.inj (hi.symm.trans hb)
    subst ey
    have hrow := g.row i ws[i] (List.getElem?_eq_getElem hi')
    have sm2 : Same H (upd H1 T (.tup [.int (i : Nat), .ref b])) := same_add sm nT
    have hR2 := same_seqT sm2 hR
    have hlen : ((ws[i]).map V.int).length = i + 1 := by rw [List.length_map, hrow.1]
    refine ⟨T, _, rfl, .of upd_same, rfl, _, _, rfl, _, _, rfl, rfl, ?_⟩
    refine ⟨_, rfl, _, rfl, _, _, rfl, rfl, _, rfl, _, _, rfl, rfl, _, _, _, rfl, .inl ⟨b, _, rfl, hR2, _, rfl, ?_⟩⟩
    rw [both_true (a := (i : Int) + 1 ≤ ((ws[i].map V.int).length : Int)) (b := ((ws[i].map V.int).length : Int) ≤ (i : Int) + 1) (by omega) (by omega)]
    refine iteF ?_
    refine ⟨_, rfl, b, rfl, ⟨_, hR2⟩, fun C nC => lc_tup (K := K) (a := b) (xs := ws[i].map V.int) (fun j H' => Same (upd H1 T (.tup [.int (i : Nat), .ref b])) H' ∧ H' C = some (.lst (List.replicate j (V.bl true)))) ⟨same_new nC, upd_same⟩
      (fun j H' _ p => same_seqT p.1 hR2) ?_ ?_⟩
    · rintro j y H' hj ⟨sm3, eC⟩
      rw [List.getElem?_map] at hj
      obtain ⟨c, hc, rfl⟩ := Option.map_eq_some_iff.mp hj
      have hcm := hrow.2 c (List.mem_of_getElem? hc)
      have hjl : j < ws[i].length := (List.getElem?_eq_some_iff.mp hc).1
      refine ⟨rfl, ?_⟩
      refine ⟨_, rfl, _, _, _, rfl, .inl ⟨c, rfl, ?_⟩⟩
      rw [both_true (a := (0 : Int) ≤ c) (b := c ≤ 999) hcm.1 hcm.2]
      refine ⟨_, eC, sizeS (by rw [List.length_replicate]; omega), same_set sm3 nC, ?_⟩
      rw [upd_same, rep_next]
    · rintro H' ⟨sm3, eC⟩
      refine ⟨C, List.replicate _ true, rfl, .of (by rw [rep_map]; exact eC), _, rfl, ?_⟩
      rw [rep_all]
      refine iteF ?_
      exact ⟨_, _, _, rfl, sm2.trans sm3⟩
  · rintro σ H1 ⟨s1, s2, s3, rfl, sm⟩
    exact q H1 sm
end
end SW
/-! B3: sorted_wires. -/
namespace SW
open PySem PySem.Spec PyProof.Rows L2 SW0 SWM
theorem code3 (x y z : Int) : TS.code 1000 [x, y, z] = x * 1000000 + (y * 1000 + z) := by
  have e2 : (1000 : Int) ^ 2 = 1000000 := by decide
  have e1 : (1000 : Int) ^ 1 = 1000 := by decide
  have e0 : (1000 : Int) ^ 0 = 1 := by decide
  show x * 1000 ^ 2 + (y * 1000 ^ 1 + (z * 1000 ^ 0 + 0)) = _
  rw [e2, e1, e0, Int.mul_one, Int.add_zero]
theorem code2 (x y : Int) : TS.code 1000 [x, y] = x * 1000 + y := by
  have e1 : (1000 : Int) ^ 1 = 1000 := by decide
  have e0 : (1000 : Int) ^ 0 = 1 := by decide
  show x * 1000 ^ 1 + (y * 1000 ^ 0 + 0) = _
  rw [e1, e0, Int.mul_one, Int.add_zero]
theorem tupI_e {K : PySem.W.Frag} {H : Hp} {v : V} {e : Ed} (h : Dp K H v (eD e)) : TupI K H v [e.1, e.2.1, e.2.2] := by
  obtain ⟨t, rfl, hs⟩ := e_tup h
  exact ⟨t, rfl, hs⟩
theorem tupI_p {K : PySem.W.Frag} {H : Hp} {v : V} {p : Int × Int} (h : Dp K H v (pD p)) : TupI K H v [p.1, p.2] := by
  obtain ⟨t, rfl, hs⟩ := p_tup h
  exact ⟨t, rfl, hs⟩
/-- what sorted makes of a list of the wires -/
theorem sorted_e {K : PySem.W.Frag} {H : Hp} {ws : Ws} (g : Good ws) {xs ys : List V} {l : List Ed} (h : DpAll K H xs (l.map eD)) (hl : l.Perm ((pP ws.length).map (tri ws))) (p : ys.Perm xs)
    (pw : ys.Pairwise fun x y => ∀ n m, TupI K H x n → TupI K H y m → TS.code 1000 n ≤ TS.code 1000 m) : DpAll K H ys ((se ws).map eD) := by
  obtain ⟨l', pl, hd⟩ := h.perm eD p
  have o : l'.Pairwise fun a b => cd a ≤ cd b := hd.pw pw fun u v a b hu hv k => by
    have q := k _ _ (tupI_e hu) (tupI_e hv)
    rw [code3, code3] at q
    exact q
  rw [se_uniq g (pl.trans hl) o] at hd
  exact hd
theorem e_ok {K : PySem.W.Frag} {H : Hp} {ws : Ws} (g : Good ws) {xs : List V} {l : List Ed} (h : DpAll K H xs (l.map eD)) (hl : l.Perm ((pP ws.length).map (tri ws))) :
    xs.length < 64 ∧ ∀ x ∈ xs, ∃ ns, TupI K H x ns ∧ ns.length = 3 ∧ TS.Bd 1000 ns := by
  have e1 : xs.length = l.length := by rw [h.len, List.length_map]
  have hp := hl.trans (se_perm ws).symm
  refine ⟨by rw [e1, hp.length_eq]; have := se_len g; omega, fun x hx => ?_⟩
  obtain ⟨i, hi, e⟩ := List.getElem_of_mem hx
  obtain ⟨d, hd, hv⟩ := h.get (i := i) (v := x) (by rw [List.getElem?_eq_getElem hi, e])
  rw [List.getElem?_map] at hd
  obtain ⟨a, ha, rfl⟩ := Option.map_eq_some_iff.mp hd
  have ha' := mem_se g (hp.mem_iff.mp (List.mem_of_getElem? ha))
  have := g.hi
  refine ⟨_, tupI_e hv, rfl, fun m hm => ?_⟩
  rcases List.mem_cons.mp hm with rfl | hm
  · omega
  rcases List.mem_cons.mp hm with rfl | hm
  · omega
  rw [List.mem_singleton.mp hm]
  omega
/-- the wires of the first places -/
def prow (n : Nat) (o : Int) (j : Nat) : List (Int × Int) := (((places n).take j).filter fun a => decide (a < o)).map fun a => (a, o)
def pfst (n i : Nat) : List (Int × Int) := ((places n).take i).flatMap fun o => prow n o (n + 1)
theorem prow_next {n : Nat} {o : Int} {j : Nat} (h : j < n + 1) : prow n o (j + 1) = if (j : Int) < o then prow n o j ++ [((j : Int), o)] else prow n o j := by
  unfold prow
  rw [List.take_add_one, places_get n j h, List.filter_append, List.map_append]
  by_cases c : (j : Int) < o
  · rw [if_pos c, show ((some (j : Int)).toList.filter fun a => decide (a < o)) = [(j : Int)] by simp [c]]
    rfl
  · rw [if_neg c, show ((some (j : Int)).toList.filter fun a => decide (a < o)) = [] by simp [c]]
    simp
theorem pfst_next {n i : Nat} (h : i < n + 1) : pfst n (i + 1) = pfst n i ++ prow n (i : Int) (n + 1) := by
  unfold pfst
  rw [List.take_add_one, places_get n i h, List.flatMap_append]
  simp
theorem pfst_all (n : Nat) : pfst n (n + 1) = pP n := by
  unfold pfst pP
  rw [List.take_of_length_le (by rw [places_len]; exact Nat.le_refl _)]
  congr 1
  funext o
  unfold prow
  rw [List.take_of_length_le (by rw [places_len]; exact Nat.le_refl _)]
theorem prow_len {n : Nat} {o : Int} {j : Nat} : (prow n o j).length ≤ j := by
  unfold prow
  rw [List.length_map]
  refine Nat.le_trans (List.length_filter_le _ _) ?_
  rw [List.length_take]
  omega
section
variable {P : Program} {w : World} {K : PySem.W.Frag} {mg : Str → Option Value} {base : Heap}
abbrev sSort : Stmt := top 12
abbrev nSort : List Str := ["wires", "places", "found", "other", "one"]
theorem scSort : FnScope nSort ["wires", "places"] (defScope sSort) := ⟨rfl, rfl, rfl, by decide +kernel, rfl, by decide +kernel, by decide +kernel⟩
def spSort (K : PySem.W.Frag) : Sp := fun vs H Q _ => ∃ x a ws, vs = [x, .ref a] ∧ Dp K H x (wD ws) ∧ Good ws ∧ SqL K H a ((places ws.length).map V.int) ∧
  ∀ H' p xs, Same H H' → H p = none → H' p = some (.lst xs) → DpAll K H' xs ((se ws).map eD) → Q (.ref p) H'
theorem places_at {n i : Nat} {v : V} (h : ((places n).map V.int)[i]? = some v) : i < n + 1 ∧ v = .int (i : Int) := by
  have hi : i < n + 1 := by
    have := (List.getElem?_eq_some_iff.mp h).1
    rw [List.length_map, places_len] at this
    exact this
  rw [List.getElem?_map, places_get n i hi] at h
  exact ⟨hi, (Option.some.inj h).symm⟩
theorem len_places (n : Nat) : ((places n).map V.int).length = n + 1 := by rw [List.length_map, places_len]
theorem ok_sort (B : Bi mg) (D : Df K mg "sorted_wires" sSort ["wires", "places"]) (cC : Cal P w K mg base 1 "cost_between" (spCost K)) : Cal P w K mg base 2 "sorted_wires" (spSort K) := by
  refine cal_of D scSort (fun vs H Q E h => ?_) (fun f cdv A outer s H vs Q E hr h => ?_)
  · obtain ⟨x, a, ws, rfl, _⟩ := h
    rfl
  obtain ⟨x, a, ws, rfl, hx, g, hA, q⟩ := h
  refine ⟨_, pss_cons (ps_set (i := 2) scSort.nd rfl (.inl rfl) (pe_lst pa_nil))
    (pss_cons (ps_for PassesOwn.never rfl (pi_list (pv 1)) (pg_name (i := 3) scSort.nd rfl (.inr rfl))
      (pss_one (ps_set (i := 2) scSort.nd rfl (.inl rfl) (pe_op op_cat (pv 2)
        (pe_lc (own := [("one", 4)]) (g := gName 4) rfl scSort.nd (pi_list (pv 1)) (blkOk_by (N := nSort) (sc := defScope sSort) (by decide +kernel)) (fun _ _ _ _ _ => pg_name (i := 4) scSort.nd rfl (Or.inl rfl))
          (fun _ _ _ _ _ => pts_one (pt_cmpR op_lt (pv 4) (pv 3) (nomark _)))
          (fun _ _ _ _ _ => pe_tup (pa_cons (pc cC hr (by decide) (pa_cons (pv 0) (pa_cons (pv 4) (pa_cons (pv 3) pa_nil)))) (pa_cons (pv 4) (pa_cons (pv 3) pa_nil)))))))))
    (pss_one (ps_ret (pe_callB (cr_sortT (d := 3) (B := 1000) (by decide)) (by rfl) B.sorted (by decide +kernel) (pa_cons (pv 2) pa_nil))))), ?_⟩
  have h6 := g.hi
  -- found = []
  refine ⟨Nat.zero_le _, fun D0 nD0 => ?_⟩
  have hA0 : SqL K (upd H D0 (.lst [])) a ((places ws.length).map V.int) := (same_new nD0).seq hA
  refine ⟨_, rfl, a, rfl, ⟨_, hA0⟩, for_list (K := K) (a := a) (xs := (places ws.length).map V.int) (fun i σ H' => ∃ Df xs s3, σ = [some x, some (.ref a), some (.ref Df), s3, none] ∧ Same H H' ∧ H Df = none ∧ H' Df = some (.lst xs) ∧
      DpAll K H' xs ((pfst ws.length i).map fun p => eD (tri ws p)) ∧ xs.length ≤ 7 * i) ⟨D0, [], none, rfl, same_new nD0, nD0, upd_same, .nil, Nat.le_refl _⟩ (fun i σ H' _ ⟨_, _, _, _, sm, _⟩ => sm.seq hA) ?_ ?_⟩
  · rintro i y σ H1 hi ⟨Df, xs, s3, rfl, sm, nDf, eF, hF, lF⟩
    obtain ⟨hi', rfl⟩ := places_at hi
    have hA1 := sm.seq hA
    -- found + [..]
    refine ⟨_, rfl, _, rfl, a, rfl, ⟨_, hA1⟩, fun C nC => lc_list (K := K) (a := a) (xs := (places ws.length).map V.int) (fun j H' => ∃ ys, Same H1 H' ∧ H' C = some (.lst ys) ∧ DpAll K H' ys ((prow ws.length (i : Int) j).map fun p => eD (tri ws p)))
      ⟨[], same_new nC, upd_same, .nil⟩ (fun j H' _ ⟨_, s2, _⟩ => s2.seq hA1) ?_ ?_⟩
    · rintro j y H2 hj ⟨ys, s2, eC, hC⟩
      obtain ⟨hj', rfl⟩ := places_at hj
      refine ⟨rfl, ?_⟩
      refine ⟨_, rfl, _, rfl, _, _, rfl, rfl, _, rfl, ?_⟩
      refine ite2 (fun c => ?_) (fun c => ?_)
      · have c' : (j : Int) < (i : Int) := of_decide_eq_true c
        refine ⟨_, rfl, _, rfl, _, rfl, x, ws, (j : Int), (i : Int), rfl, (hx.same (sm.trans s2) _), g, by omega, c', by omega, ?_⟩
        refine ⟨_, rfl, _, rfl, (by show 3 ≤ sizeLine; decide), fun T nT => ?_⟩
        have nTC : C ≠ T := ne_of_none eC nT
        have eC' : (upd H2 T (.tup [.int (wc ws (j : Int) (i : Int)), .int (j : Int), .int (i : Int)])) C = some (.lst ys) := by
          rw [upd_ne nTC]
          exact eC
        have hlen : ys.length = (prow ws.length (i : Int) j).length := by rw [hC.len, List.length_map]
        have hle := prow_len (n := ws.length) (o := (i : Int)) (j := j)
        refine ⟨_, eC', sizeS (by omega), _, same_set (same_add s2 nT) nC, upd_same, ?_⟩
        rw [prow_next hj', if_pos c', List.map_append]
        have st : SameT H2 (upd (upd H2 T (.tup [.int (wc ws (j : Int) (i : Int)), .int (j : Int), .int (i : Int)])) C (.lst (ys ++ [.ref T]))) := (sameT_new nT).trans (sameT_lst eC')
        refine (hC.sameT st _ (nl_all (fun p => nl_e _) _)).app (.one ?_)
        refine mk_e (e := tri ws ((j : Int), (i : Int))) (.of ?_)
        rw [upd_ne nTC.symm, upd_same]
        rfl
      · have c' : ¬ (j : Int) < (i : Int) := of_decide_eq_false (Bool.eq_false_iff.mpr c)
        refine ⟨ys, s2, eC, ?_⟩
        rw [prow_next hj', if_neg c']
        exact hC
    · rintro H2 ⟨ys, s2, eC, hC⟩
      rw [len_places] at hC
      have eF2 := s2 _ _ eF
      have hlen : ys.length = (prow ws.length (i : Int) (ws.length + 1)).length := by rw [hC.len, List.length_map]
      have hle := prow_len (n := ws.length) (o := (i : Int)) (j := ws.length + 1)
      refine ⟨Df, C, xs, ys, rfl, rfl, eF2, eC, Nat.le_of_lt (sizeS (by omega)), fun R nR => ?_⟩
      refine ⟨R, xs ++ ys, _, rfl, same_add (sm.trans s2) nR, sm.free (s2.free nR), upd_same, ?_, ?_⟩
      · rw [pfst_next hi', List.map_append]
        exact ((hF.same s2 _).same (same_new nR) _).app (hC.same (same_new nR) _)
      · rw [List.length_append]
        omega
  · rintro σ H1 ⟨Df, xs, s3, rfl, sm, nDf, eF, hF, lF⟩
    rw [len_places, pfst_all] at hF
    have hF' : DpAll K H1 xs (((pP ws.length).map (tri ws)).map eD) := by
      rw [List.map_map]
      exact hF
    obtain ⟨k1, k2⟩ := e_ok g hF' (.refl _)
    refine ⟨_, rfl, Df, xs, rfl, .of eF, k1, k2, fun ys p pm pw np => ?_⟩
    refine q _ p ys (same_add sm np) (sm.free np) upd_same ?_
    exact (sorted_e g hF' (.refl _) pm pw).same (same_new np) _
end
end SW
/-! B4: grown. -/
namespace SW
open PySem PySem.Spec PyProof.Rows L2 SW0 SWM
/-- the dict of marks -/
def MD (kvs : List (Key × V)) (n : Nat) (f : Int → Int) : Prop := kvs.length = n + 1 ∧ ∀ x, R n x → valV kvs (Sum.inl x : Key) = some (.int (f x))
theorem putK_len {kvs : List (Key × V)} {k : Key} {u v : V} (h : valV kvs k = some u) : (putK kvs k v).length = kvs.length := by
  unfold putK
  rw [valV_any, h]
  rw [if_pos (show (some u).isSome = true from rfl), List.length_map]
theorem MD.get {kvs : List (Key × V)} {n : Nat} {f : Int → Int} (h : MD kvs n f) {H : Hp} {D : Addr} (e : H D = some (.dK kvs)) {x : Int} (hx : R n x) : DGet H D (.int x) (some (.int (f x))) := by
  have := DGet.k (k := Sum.inl x) e
  rw [h.2 x hx] at this
  exact this
theorem MD.put {kvs : List (Key × V)} {n : Nat} {f g : Int → Int} (h : MD kvs n f) {x y : Int} (hx : R n x) (hg : ∀ z, R n z → g z = if z = x then y else f z) : MD (putK kvs (Sum.inl x : Key) (.int y)) n g := by
  refine ⟨by rw [putK_len (h.2 x hx)]; exact h.1, fun z hz => ?_⟩
  rw [valV_put, hg z hz]
  by_cases c : z = x
  · subst c
    rw [if_pos rfl, if_pos rfl]
  · rw [if_neg (fun q => c (Sum.inl.inj q)), if_neg c]
    exact h.2 z hz
theorem MD.congr {kvs : List (Key × V)} {n : Nat} {f g : Int → Int} (h : MD kvs n f) (e : ∀ x, R n x → g x = f x) : MD kvs n g := ⟨h.1, fun x hx => by rw [e x hx]; exact h.2 x hx⟩
/-- the dict while it is filled: i of the places -/
def MDn (kvs : List (Key × V)) (i : Nat) : Prop := kvs.length = i ∧ ∀ x : Int, valV kvs (Sum.inl x : Key) = if 0 ≤ x ∧ x < (i : Int) then some (.int x) else none
theorem MDn.next {kvs : List (Key × V)} {i : Nat} (h : MDn kvs i) : MDn (putK kvs (Sum.inl (i : Int) : Key) (.int (i : Int))) (i + 1) := by
  have hn : valV kvs (Sum.inl (i : Int) : Key) = none := by
    rw [h.2, if_neg]
    omega
  refine ⟨by rw [putK_new _ hn, List.length_append, h.1]; rfl, fun x => ?_⟩
  rw [valV_put]
  by_cases c : x = (i : Int)
  · subst c
    rw [if_pos rfl, if_pos (by omega)]
  · rw [if_neg (fun q => c (Sum.inl.inj q)), h.2]
    by_cases d : 0 ≤ x ∧ x < (i : Int)
    · rw [if_pos d, if_pos (by omega)]
    · rw [if_neg d, if_neg (by omega)]
theorem MDn.all {kvs : List (Key × V)} {n : Nat} (h : MDn kvs (n + 1)) : MD kvs n fun x => mk (places n) x := by
  refine ⟨h.1, fun x hx => ?_⟩
  rw [h.2, if_pos ⟨hx.1, by have := hx.2; omega⟩]
  show _ = some (V.int (mk (places n) x))
  rw [mk_places hx]
section
variable {P : Program} {w : World} {K : PySem.W.Frag} {mg : Str → Option Value} {base : Heap}
abbrev sGrown : Stmt := top 13
abbrev nGrown : List Str := ["wires", "places", "place", "marks", "found", "cost", "one", "other", "low_mark", "high_mark"]
theorem scGrown : FnScope nGrown ["wires", "places"] (defScope sGrown) := ⟨rfl, rfl, rfl, by decide +kernel, rfl, by decide +kernel, by decide +kernel⟩
def spGrown (K : PySem.W.Frag) : Sp := fun vs H Q _ => ∃ x a ws, vs = [x, .ref a] ∧ Dp K H x (wD ws) ∧ Good ws ∧ SqL K H a ((places ws.length).map V.int) ∧
  ∀ H' p xs, Same H H' → H p = none → H' p = some (.lst xs) → DpAll K H' xs ((grownM ws).map eD) → Q (.ref p) H'
theorem ok_grown (B : Bi mg) (D : Df K mg "grown" sGrown ["wires", "places"]) (cS : Cal P w K mg base 2 "sorted_wires" (spSort K)) : Cal P w K mg base 3 "grown" (spGrown K) := by
  refine cal_of D scGrown (fun vs H Q E h => ?_) (fun f cdv A outer s H vs Q E hr h => ?_)
  · obtain ⟨x, a, ws, rfl, _⟩ := h
    rfl
  obtain ⟨x, a, ws, rfl, hx, g, hA, q⟩ := h
  have hu := hu_of hr
  refine ⟨_, pss_cons (ps_par (i := 3) (j := 4) rfl scGrown.nd rfl rfl (by decide) rfl rfl (pa_cons
      (pe_dc (own := [("place", 2)]) (g := gName 2) (tt := tYes) rfl scGrown.nd (pi_list (pv 1)) (blkOk_by (N := nGrown) (sc := defScope sGrown) (by decide +kernel)) (fun _ _ _ _ _ => pg_name (i := 2) scGrown.nd rfl (Or.inl rfl)) (fun _ _ _ _ _ => pts_nil)
        (fun _ _ _ _ _ => pv 2) (fun _ _ _ _ _ => pv 2)) (pa_cons (pe_lst pa_nil) pa_nil)) (by rfl))
    (pss_cons (ps_for PassesOwn.never rfl (pi_list (pc cS hr (by decide) (pa_cons (pv 0) (pa_cons (pv 1) pa_nil)))) (pg_tup rfl (pgs_cons (pg_name (i := 5) scGrown.nd rfl (.inl rfl)) (pgs_cons (pg_name (i := 6) scGrown.nd rfl (.inl rfl)) (pgs_cons (pg_name (i := 7) scGrown.nd rfl (.inl rfl)) pgs_nil))))
      (pss_one (ps_if (pt_cmpR op_ne (pe_dget hu (pv 3) (pv 6) (fun _ _ => rfl)) (pe_dget hu (pv 3) (pv 7) (fun _ _ => rfl)) (nomark _))
        (pss_cons (ps_expr (pe_bm PySem.F.plainAttrs_list PySem.F.slot_list_append PySem.F.type_list_append mt_append (pv 4) (pa_cons (pe_tup (pa_cons (pv 5) (pa_cons (pv 6) (pa_cons (pv 7) pa_nil)))) pa_nil)))
        (pss_cons (ps_par (i := 8) (j := 9) rfl scGrown.nd rfl rfl (by decide) rfl rfl (pa_cons
            (pe_callB (call_min2 rfl) (by rfl) B.min (by decide +kernel) (pa_cons (pe_dget hu (pv 3) (pv 6) (fun _ _ => rfl)) (pa_cons (pe_dget hu (pv 3) (pv 7) (fun _ _ => rfl)) pa_nil))) (pa_cons
            (pe_callB (call_max2 rfl) (by rfl) B.max (by decide +kernel) (pa_cons (pe_dget hu (pv 3) (pv 6) (fun _ _ => rfl)) (pa_cons (pe_dget hu (pv 3) (pv 7) (fun _ _ => rfl)) pa_nil))) pa_nil)) (by rfl))
        (pss_one (ps_for PassesOwn.never rfl (pi_list (pv 1)) (pg_name (i := 2) scGrown.nd rfl (.inl rfl))
          (pss_one (ps_if (pt_cmpR op_eq (pe_dget hu (pv 3) (pv 2) (fun _ _ => rfl)) (pv 9) (nomark _)) (pss_one (ps_dput hu (pv 3) (pv 2) (pv 8) rfl)) pss_nil)))))) pss_nil)))
    (pss_one (ps_ret (pv 4)))), ?_⟩
  have h6 := g.hi
  -- marks, found
  refine ⟨_, rfl, a, rfl, ⟨_, hA⟩, fun D1 nD1 => dc_lst (K := K) (a := a) (xs := (places ws.length).map V.int) (fun i H' => ∃ kvs, Same H H' ∧ H' D1 = some (.dK kvs) ∧ MDn kvs i) ⟨[], same_new nD1, upd_same, rfl, fun x => ?_⟩
    (fun i H' _ ⟨_, sm, _⟩ => sm.seq hA) ?_ ?_⟩
  · rw [if_neg (by omega)]
    rfl
  · rintro i y H1 hi ⟨kvs, sm, e1, md⟩
    obtain ⟨hi', rfl⟩ := places_at hi
    refine ⟨rfl, ?_⟩
    refine ⟨_, rfl, _, rfl, kvs, Sum.inl (i : Int), rfl, e1, sizeS (by rw [md.1]; omega), _, same_set sm nD1, upd_same, md.next⟩
  rintro H1 ⟨kvs0, sm1, e1, md0⟩
  rw [len_places] at md0
  refine ⟨Nat.zero_le _, fun D2 nD2 => ?_⟩
  have n12 : D1 ≠ D2 := ne_of_none e1 nD2
  have nD2' : H D2 = none := sm1.free nD2
  refine ⟨_, _, rfl, ?_⟩
  -- the loop
  have sm2 : Same H (upd H1 D2 (.lst [])) := same_add sm1 nD2
  have e1' : (upd H1 D2 (.lst [])) D1 = some (.dK kvs0) := by
    rw [upd_ne n12]
    exact e1
  refine ⟨_, rfl, _, rfl, x, a, ws, rfl, hx.same sm2 _, g, sm2.seq hA, fun H3 p xs sm3 np ep hp => ?_⟩
  have np1 : p ≠ D1 := (ne_of_none e1' np).symm
  have np2 : p ≠ D2 := (ne_of_none upd_same np).symm
  refine ⟨p, rfl, ⟨xs, .of ep⟩, for_list (K := K) (a := p) (xs := xs) (fun i σ H' => ∃ m f ys kvs s2 s5 s6 s7 s8 s9, σ = [some x, some (.ref a), s2, some (.ref D1), some (.ref D2), s5, s6, s7, s8, s9] ∧ Same H H' ∧
      H' D1 = some (.dK kvs) ∧ MD kvs ws.length (mk m) ∧ H' D2 = some (.lst ys) ∧ DpAll K H' ys (f.map eD) ∧ H' p = some (.lst xs) ∧ DpAll K H' xs ((se ws).map eD) ∧ Ok ws.length m ∧ f ++ (run m ((se ws).drop i)).2 = grownM ws ∧ f.length ≤ i)
    ⟨places ws.length, [], [], kvs0, _, _, _, _, _, _, rfl, sm2.trans sm3, sm3 _ _ e1', md0.all, sm3 _ _ upd_same, .nil, ep, hp, ok_places _, rfl, Nat.le_refl _⟩ (fun i σ H' _ ⟨_, _, _, _, _, _, _, _, _, _, _, _, _, _, _, _, e, _⟩ => .of e) ?_ ?_⟩
  · rintro i y σ H4 hi ⟨m, f, ys, kvs, s2, s5, s6, s7, s8, s9, rfl, sm, eD1, md, eD2, hY, eP, hX, o, hrun, hlf⟩
    obtain ⟨d, hd, hv⟩ := hX.get hi
    rw [List.getElem?_map] at hd
    obtain ⟨e, he, rfl⟩ := Option.map_eq_some_iff.mp hd
    have hem := mem_se g (List.mem_of_getElem? he)
    have hi21 : i < 21 := by
      have h1 := (List.getElem?_eq_some_iff.mp he).1
      have h2 := se_len g
      omega
    have Ra : R ws.length e.2.1 := ⟨hem.1, by omega⟩
    have Rb : R ws.length e.2.2 := ⟨by omega, hem.2.2.1⟩
    obtain ⟨t, rfl, hT⟩ := e_tup hv
    have hdrop : (se ws).drop i = e :: (se ws).drop (i + 1) := List.drop_eq_getElem?_toList_append.trans (by rw [he]; rfl)
    rw [hdrop] at hrun
    refine ⟨t, _, rfl, hT, rfl, _, _, rfl, _, _, rfl, _, _, rfl, rfl, ?_⟩
    refine ⟨_, rfl, _, rfl, D1, _, rfl, md.get eD1 Ra, _, rfl, _, rfl, D1, _, rfl, md.get eD1 Rb, rfl, _, rfl, ?_⟩
    by_cases c : mk m e.2.1 = mk m e.2.2
    · rw [c, decide_eq_true rfl]
      refine iteF ?_
      rw [run_skip c] at hrun
      exact ⟨m, f, ys, kvs, _, _, _, _, _, _, rfl, sm, eD1, md, eD2, hY, eP, hX, o, hrun, by omega⟩
    · rw [decide_eq_false (fun z => c (V.int.inj z))]
      refine iteT ?_
      rw [run_take c] at hrun
      -- found.append(..)
      have hlY : ys.length = f.length := by rw [hY.len, List.length_map]
      refine ⟨_, rfl, .inl ⟨rfl, _, .of eD2⟩, _, rfl, _, rfl, _, rfl, (by show 3 ≤ sizeLine; decide), fun T nT => ?_⟩
      have nT1 : D1 ≠ T := ne_of_none eD1 nT
      have nT2 : D2 ≠ T := ne_of_none eD2 nT
      have nTp : p ≠ T := ne_of_none eP nT
      have eD2' : (upd H4 T (.tup [.int e.1, .int e.2.1, .int e.2.2])) D2 = some (.lst ys) := by
        rw [upd_ne nT2]
        exact eD2
      refine ⟨D2, ys, _, rfl, rfl, eD2', sizeS (by omega), ?_⟩
      have st : SameT H4 (upd (upd H4 T (.tup [.int e.1, .int e.2.1, .int e.2.2])) D2 (.lst (ys ++ [.ref T]))) := (sameT_new nT).trans (sameT_lst eD2')
      have sm5 : Same H (upd (upd H4 T (.tup [.int e.1, .int e.2.1, .int e.2.2])) D2 (.lst (ys ++ [.ref T]))) := same_set (same_add sm nT) nD2'
      have eD1' : (upd (upd H4 T (.tup [.int e.1, .int e.2.1, .int e.2.2])) D2 (.lst (ys ++ [.ref T]))) D1 = some (.dK kvs) := by
        rw [upd_ne n12, upd_ne nT1]
        exact eD1
      have eP' : (upd (upd H4 T (.tup [.int e.1, .int e.2.1, .int e.2.2])) D2 (.lst (ys ++ [.ref T]))) p = some (.lst xs) := by
        rw [upd_ne np2, upd_ne nTp]
        exact eP
      have hY' : DpAll K (upd (upd H4 T (.tup [.int e.1, .int e.2.1, .int e.2.2])) D2 (.lst (ys ++ [.ref T]))) (ys ++ [.ref T]) ((f ++ [e]).map eD) := by
        rw [List.map_append]
        refine (hY.sameT st _ (nl_all nl_e _)).app (.one (mk_e (.of ?_)))
        rw [upd_ne nT2.symm, upd_same]
      have hX' := hX.sameT st _ (nl_all nl_e _)
      have eD2n : (upd (upd H4 T (.tup [.int e.1, .int e.2.1, .int e.2.2])) D2 (.lst (ys ++ [.ref T]))) D2 = some (.lst (ys ++ [.ref T])) := upd_same
      generalize upd (upd H4 T (.tup [.int e.1, .int e.2.1, .int e.2.2])) D2 (.lst (ys ++ [.ref T])) = H5 at sm5 eD1' eP' hY' hX' eD2n ⊢
      -- low_mark, high_mark
      refine ⟨_, rfl, _, rfl, D1, _, rfl, md.get eD1' Ra, _, rfl, _, rfl, D1, _, rfl, md.get eD1' Rb, _, _, rfl, ?_⟩
      refine ⟨_, rfl, _, rfl, D1, _, rfl, md.get eD1' Ra, _, rfl, _, rfl, D1, _, rfl, md.get eD1' Rb, _, _, rfl, _, _, rfl, ?_⟩
      have hA5 := sm5.seq hA
      have hl2 : f ++ [e] ++ (run (rel m e.2.1 e.2.2) ((se ws).drop (i + 1))).2 = grownM ws := by
        rw [← hrun, List.append_assoc]
        rfl
      -- for place in places
      refine ⟨_, rfl, a, rfl, ⟨_, hA5⟩, for_list (K := K) (a := a) (xs := (places ws.length).map V.int) (fun j σ H' => ∃ kvs' s2', σ = [some x, some (.ref a), s2', some (.ref D1), some (.ref D2), some (.int e.1), some (.int e.2.1), some (.int e.2.2),
          some (.int (loOf (mk m e.2.1) (mk m e.2.2))), some (.int (hiOf (mk m e.2.1) (mk m e.2.2)))] ∧ Same H H' ∧ H' D1 = some (.dK kvs') ∧ MD kvs' ws.length (fun z => if z < (j : Int) then mk (rel m e.2.1 e.2.2) z else mk m z) ∧
          H' D2 = some (.lst (ys ++ [.ref T])) ∧ DpAll K H' (ys ++ [.ref T]) ((f ++ [e]).map eD) ∧ H' p = some (.lst xs) ∧ DpAll K H' xs ((se ws).map eD))
        ⟨kvs, _, rfl, sm5, eD1', md.congr (fun z hz => if_neg (by have := hz.1; omega)), eD2n, hY', eP', hX'⟩ (fun j σ H' _ ⟨_, _, _, s6, _⟩ => s6.seq hA) ?_ ?_⟩
      · rintro j y σ H6 hj ⟨kvs', s2', rfl, sm6, k1, md6, k2, hY6, k3, hX6⟩
        obtain ⟨hj', rfl⟩ := places_at hj
        have Rj : R ws.length (j : Int) := ⟨by omega, by omega⟩
        have g1 := md6.get k1 Rj
        rw [if_neg (by omega)] at g1
        refine ⟨_, rfl, _, rfl, D1, _, rfl, g1, _, rfl, rfl, _, rfl, ?_⟩
        have er := mk_rel o (a := e.2.1) (b := e.2.2) Rj
        by_cases c2 : mk m (j : Int) = hiOf (mk m e.2.1) (mk m e.2.2)
        · rw [if_pos c2] at er
          rw [c2, decide_eq_true rfl]
          refine iteT ?_
          refine ⟨_, rfl, _, rfl, _, rfl, D1, _, rfl, DPut.k (k := Sum.inl (j : Int)) k1 (sizeS (by rw [md6.1]; omega)), ?_⟩
          have st6 : SameT H6 (upd H6 D1 (.dK (putK kvs' (Sum.inl (j : Int) : Key) (.int (loOf (mk m e.2.1) (mk m e.2.2)))))) := sameT_dK k1
          refine ⟨_, _, rfl, same_set sm6 nD1, upd_same, md6.put Rj fun z hz => ?_, ?_, hY6.sameT st6 _ (nl_all nl_e _), ?_, hX6.sameT st6 _ (nl_all nl_e _)⟩
          · by_cases c3 : z = (j : Int)
            · rw [if_pos c3, c3, if_pos (by omega)]
              exact er
            · rw [if_neg c3]
              by_cases c4 : z < (j : Int)
              · rw [if_pos c4, if_pos (by omega)]
              · rw [if_neg c4, if_neg (by omega)]
          · rw [upd_ne n12.symm]
            exact k2
          · rw [upd_ne np1]
            exact k3
        · rw [if_neg c2] at er
          rw [decide_eq_false (fun z => c2 (V.int.inj z))]
          refine iteF ?_
          refine ⟨kvs', _, rfl, sm6, k1, md6.congr fun z hz => ?_, k2, hY6, k3, hX6⟩
          by_cases c3 : z = (j : Int)
          · rw [c3, if_pos (by omega), if_neg (by omega), er]
          · by_cases c4 : z < (j : Int)
            · rw [if_pos c4, if_pos (by omega)]
            · rw [if_neg c4, if_neg (by omega)]
      · rintro σ H6 ⟨kvs', s2', rfl, sm6, k1, md6, k2, hY6, k3, hX6⟩
        rw [len_places] at md6
        refine ⟨rel m e.2.1 e.2.2, f ++ [e], _, kvs', _, _, _, _, _, _, rfl, sm6, k1, md6.congr fun z hz => ?_, k2, hY6, k3, hX6, ok_rel o Ra Rb, hl2, ?_⟩
        · rw [if_pos (by have := hz.2; omega)]
        · rw [List.length_append, List.length_singleton]
          omega
  · rintro σ H4 ⟨m, f, ys, kvs, s2, s5, s6, s7, s8, s9, rfl, sm, eD1, md, eD2, hY, eP, hX, o, hrun, hlf⟩
    have hlen : xs.length = (se ws).length := by rw [hX.len, List.length_map]
    rw [hlen, List.drop_length, run_nil, List.append_nil] at hrun
    rw [hrun] at hY
    exact ⟨_, rfl, q H4 D2 ys sm nD2' eD2 hY⟩
end
end SW
/-! B5: tree_cost, tree_sum, first_tree. -/
namespace SW
open PySem PySem.Spec PyProof.Rows L2 SW0 SWM
theorem take_next' {α : Type} {l : List α} {i : Nat} {a : α} (h : l[i]? = some a) : l.take (i + 1) = l.take i ++ [a] := by
  rw [List.take_add_one, h]
  rfl
theorem take_map_all {α β : Type} {l : List α} {f : α → β} {n : Nat} (h : n = l.length) : (l.take n).map f = l.map f := by
  rw [h, List.take_length]
theorem at0 {x : V} {xs : List V} : atI (x :: xs) 0 = some x := atI_nat (j := 0) rfl
/-- sorted over a list of the tree's pairs -/
theorem sorted_p {K : PySem.W.Frag} {H : Hp} {ws : Ws} (g : Good ws) {xs ys : List V} {l : List (Int × Int)} (h : DpAll K H xs (l.map pD)) (hl : l.Perm ((grownM ws).map (·.2))) (p : ys.Perm xs)
    (pw : ys.Pairwise fun x y => ∀ n m, TupI K H x n → TupI K H y m → TS.code 1000 n ≤ TS.code 1000 m) : DpAll K H ys ((tr ws).map pD) := by
  obtain ⟨l', pl, hd⟩ := h.perm pD p
  have o : l'.Pairwise fun a b => cp a ≤ cp b := hd.pw pw fun u v a b hu hv k => by
    have q := k _ _ (tupI_p hu) (tupI_p hv)
    rw [code2, code2] at q
    exact q
  rw [tr_uniq g (pl.trans hl) o] at hd
  exact hd
theorem p_ok {K : PySem.W.Frag} {H : Hp} {ws : Ws} (g : Good ws) {xs : List V} {l : List (Int × Int)} (h : DpAll K H xs (l.map pD)) (hl : l.Perm ((grownM ws).map (·.2))) :
    xs.length < 64 ∧ ∀ x ∈ xs, ∃ ns, TupI K H x ns ∧ ns.length = 2 ∧ TS.Bd 1000 ns := by
  have e1 : xs.length = l.length := by rw [h.len, List.length_map]
  have hp := hl.trans (tr_perm ws).symm
  have h6 := g.hi
  refine ⟨by rw [e1, hp.length_eq, tr_len g]; omega, fun x hx => ?_⟩
  obtain ⟨i, hi, e⟩ := List.getElem_of_mem hx
  obtain ⟨d, hd, hv⟩ := h.get (i := i) (v := x) (by rw [List.getElem?_eq_getElem hi, e])
  rw [List.getElem?_map] at hd
  obtain ⟨a, ha, rfl⟩ := Option.map_eq_some_iff.mp hd
  have ha' := mem_tr g (hp.mem_iff.mp (List.mem_of_getElem? ha))
  refine ⟨_, tupI_p hv, rfl, fun m hm => ?_⟩
  rcases List.mem_cons.mp hm with rfl | hm
  · omega
  rw [List.mem_singleton.mp hm]
  omega
section
variable {P : Program} {w : World} {K : PySem.W.Frag} {mg : Str → Option Value} {base : Heap}
abbrev sTCost : Stmt := top 15
abbrev sTSum : Stmt := top 19
abbrev sFirst : Stmt := top 16
abbrev nW : List Str := ["wires", "wire"]
theorem scTCost : FnScope nW ["wires"] (defScope sTCost) := ⟨rfl, rfl, rfl, by decide +kernel, rfl, by decide +kernel, by decide +kernel⟩
theorem scTSum : FnScope nW ["wires"] (defScope sTSum) := ⟨rfl, rfl, rfl, by decide +kernel, rfl, by decide +kernel, by decide +kernel⟩
theorem scFirst : FnScope nW ["wires"] (defScope sFirst) := ⟨rfl, rfl, rfl, by decide +kernel, rfl, by decide +kernel, by decide +kernel⟩
def spSum (K : PySem.W.Frag) : Sp := fun vs H Q _ => ∃ x ws, vs = [x] ∧ Dp K H x (wD ws) ∧ Good ws ∧ ∀ H', Same H H' → Q (.int (due ws)) H'
def spFirst (K : PySem.W.Frag) : Sp := fun vs H Q _ => ∃ x ws, vs = [x] ∧ Dp K H x (wD ws) ∧ Good ws ∧ ∀ H' v, Same H H' → Dp K H' v (tD (tr ws)) → Q v H'
theorem ok_tsum (B : Bi mg) (D : Df K mg "tree_sum" sTSum ["wires"]) (cG : Cal P w K mg base 3 "grown" (spGrown K)) (cP : Cal P w K mg base 1 "all_places" (spPlaces K)) : Cal P w K mg base 4 "tree_sum" (spSum K) := by
  refine cal_of D scTSum (fun vs H Q E h => ?_) (fun f cdv A outer s H vs Q E hr h => ?_)
  · obtain ⟨x, ws, rfl, _⟩ := h
    rfl
  obtain ⟨x, ws, rfl, hx, g, q⟩ := h
  refine ⟨_, pss_one (ps_ret (pe_callB (cr_sum rfl) (by rfl) B.sum (by decide +kernel) (pa_cons
    (pe_lc (own := [("wire", 1)]) (g := gName 1) (tt := tYes) (te := tOp (rIxT K) (tVar 1) (tC (.int 0))) rfl scTSum.nd (pi_list (pc cG hr (by decide) (pa_cons (pv 0) (pa_cons (pc cP hr (by decide) (pa_cons (pv 0) pa_nil)) pa_nil)))) (blkOk_by (N := nW) (sc := defScope sTSum) (by decide +kernel))
      (fun _ _ _ _ _ => pg_name (i := 1) scTSum.nd rfl (Or.inl rfl)) (fun _ _ _ _ _ => pts_nil) (fun _ _ _ _ _ => pe_ix ix_tup (pv 1) pe_int (fun _ _ => rfl))) pa_nil))), ?_⟩
  have h6 := g.hi
  refine ⟨_, rfl, _, rfl, x, ws, rfl, hx, g, fun a na => ?_⟩
  refine ⟨x, a, ws, rfl, hx.same (same_new na) _, g, .of upd_same, fun H1 p xs sm np ep hp => ?_⟩
  refine ⟨p, rfl, ⟨xs, .of ep⟩, fun C nC => lc_list (K := K) (a := p) (xs := xs) (fun i H' => Same H1 H' ∧ H' C = some (.lst (((grownM ws).take i).map fun e => V.int e.1))) ⟨same_new nC, upd_same⟩ (fun i H' _ s2 => .of (s2.1 _ _ ep)) ?_ ?_⟩
  · rintro i y H2 hi ⟨s2, eC⟩
    obtain ⟨d, hd, hv⟩ := hp.get hi
    rw [List.getElem?_map] at hd
    obtain ⟨e, he, rfl⟩ := Option.map_eq_some_iff.mp hd
    obtain ⟨t, rfl, hT⟩ := e_tup hv
    have hil := (List.getElem?_eq_some_iff.mp he).1
    rw [grown_len g] at hil
    refine ⟨rfl, _, rfl, t, _, 0, .int e.1, rfl, rfl, same_seqT s2 hT, at0, _, eC, sizeS (by rw [List.length_map, List.length_take]; omega), same_set s2 nC, ?_⟩
    rw [upd_same, take_next' he, List.map_append]
    rfl
  · rintro H2 ⟨s2, eC⟩
    rw [take_map_all (by rw [hp.len, List.length_map])] at eC
    refine ⟨C, (grownM ws).map fun (e : Ed) => e.1, rfl, .of (by rw [List.map_map]; exact eC), q H2 ?_⟩
    exact ((same_new na).trans sm).trans s2
theorem ok_tcost (B : Bi mg) (D : Df K mg "tree_cost" sTCost ["wires"]) (cN : Cal P w K mg base 3 "need_wires" (spNeed K)) (cG : Cal P w K mg base 3 "grown" (spGrown K)) (cP : Cal P w K mg base 1 "all_places" (spPlaces K)) : Cal P w K mg base 4 "tree_cost" (spSum K) := by
  refine cal_of D scTCost (fun vs H Q E h => ?_) (fun f cdv A outer s H vs Q E hr h => ?_)
  · obtain ⟨x, ws, rfl, _⟩ := h
    rfl
  obtain ⟨x, ws, rfl, hx0, g, q⟩ := h
  refine ⟨_, pss_cons (ps_expr (pc cN hr (by decide) (pa_cons (pv 0) pa_nil))) (pss_one (ps_ret (pe_callB (cr_sum rfl) (by rfl) B.sum (by decide +kernel) (pa_cons
    (pe_lc (own := [("wire", 1)]) (g := gName 1) (tt := tYes) (te := tOp (rIxT K) (tVar 1) (tC (.int 0))) rfl scTCost.nd (pi_list (pc cG hr (by decide) (pa_cons (pv 0) (pa_cons (pc cP hr (by decide) (pa_cons (pv 0) pa_nil)) pa_nil)))) (blkOk_by (N := nW) (sc := defScope sTCost) (by decide +kernel))
      (fun _ _ _ _ _ => pg_name (i := 1) scTCost.nd rfl (Or.inl rfl)) (fun _ _ _ _ _ => pts_nil) (fun _ _ _ _ _ => pe_ix ix_tup (pv 1) pe_int (fun _ _ => rfl))) pa_nil)))), ?_⟩
  have h6 := g.hi
  refine ⟨_, rfl, x, ws, rfl, hx0, g, fun H0 sm0 => ?_⟩
  have hx := hx0.same sm0 _
  refine ⟨_, rfl, _, rfl, x, ws, rfl, hx, g, fun a na => ?_⟩
  refine ⟨x, a, ws, rfl, hx.same (same_new na) _, g, .of upd_same, fun H1 p xs sm np ep hp => ?_⟩
  refine ⟨p, rfl, ⟨xs, .of ep⟩, fun C nC => lc_list (K := K) (a := p) (xs := xs) (fun i H' => Same H1 H' ∧ H' C = some (.lst (((grownM ws).take i).map fun e => V.int e.1))) ⟨same_new nC, upd_same⟩ (fun i H' _ s2 => .of (s2.1 _ _ ep)) ?_ ?_⟩
  · rintro i y H2 hi ⟨s2, eC⟩
    obtain ⟨d, hd, hv⟩ := hp.get hi
    rw [List.getElem?_map] at hd
    obtain ⟨e, he, rfl⟩ := Option.map_eq_some_iff.mp hd
    obtain ⟨t, rfl, hT⟩ := e_tup hv
    have hil := (List.getElem?_eq_some_iff.mp he).1
    rw [grown_len g] at hil
    refine ⟨rfl, _, rfl, t, _, 0, .int e.1, rfl, rfl, same_seqT s2 hT, at0, _, eC, sizeS (by rw [List.length_map, List.length_take]; omega), same_set s2 nC, ?_⟩
    rw [upd_same, take_next' he, List.map_append]
    rfl
  · rintro H2 ⟨s2, eC⟩
    rw [take_map_all (by rw [hp.len, List.length_map])] at eC
    refine ⟨C, (grownM ws).map fun (e : Ed) => e.1, rfl, .of (by rw [List.map_map]; exact eC), q H2 ?_⟩
    exact sm0.trans (((same_new na).trans sm).trans s2)
theorem ok_first (B : Bi mg) (D : Df K mg "first_tree" sFirst ["wires"]) (cN : Cal P w K mg base 3 "need_wires" (spNeed K)) (cG : Cal P w K mg base 3 "grown" (spGrown K)) (cP : Cal P w K mg base 1 "all_places" (spPlaces K)) : Cal P w K mg base 4 "first_tree" (spFirst K) := by
  refine cal_of D scFirst (fun vs H Q E h => ?_) (fun f cdv A outer s H vs Q E hr h => ?_)
  · obtain ⟨x, ws, rfl, _⟩ := h
    rfl
  obtain ⟨x, ws, rfl, hx0, g, q⟩ := h
  refine ⟨_, pss_cons (ps_expr (pc cN hr (by decide) (pa_cons (pv 0) pa_nil))) (pss_one (ps_ret (pe_callTy call_tuple_of (by rfl) B.tuple (by decide +kernel) (pa_cons (pe_callB (cr_sortT (d := 2) (B := 1000) (by decide)) (by rfl) B.sorted (by decide +kernel) (pa_cons
    (pe_lc (own := [("wire", 1)]) (g := gName 1) (tt := tYes) (te := tSl (rSlT K) (tVar 1) (tPart (tC (.int 1))) tNoPart) rfl scFirst.nd (pi_list (pc cG hr (by decide) (pa_cons (pv 0) (pa_cons (pc cP hr (by decide) (pa_cons (pv 0) pa_nil)) pa_nil)))) (blkOk_by (N := nW) (sc := defScope sFirst) (by decide +kernel))
      (fun _ _ _ _ _ => pg_name (i := 1) scFirst.nd rfl (Or.inl rfl)) (fun _ _ _ _ _ => pts_nil) (fun _ _ _ _ _ => pe_slice sl_tup (pv 1) (po_some pe_int) po_none)) pa_nil)) pa_nil)))), ?_⟩
  have h6 := g.hi
  refine ⟨_, rfl, x, ws, rfl, hx0, g, fun H0 sm0 => ?_⟩
  have hx := hx0.same sm0 _
  refine ⟨_, rfl, _, rfl, x, ws, rfl, hx, g, fun a na => ?_⟩
  refine ⟨x, a, ws, rfl, hx.same (same_new na) _, g, .of upd_same, fun H1 p xs sm np ep hp => ?_⟩
  refine ⟨p, rfl, ⟨xs, .of ep⟩, fun C nC => lc_list (K := K) (a := p) (xs := xs) (fun i H' => ∃ ys, Same H1 H' ∧ H' C = some (.lst ys) ∧ DpAll K H' ys (((grownM ws).take i).map fun e => pD e.2)) ⟨[], same_new nC, upd_same, .nil⟩
    (fun i H' _ ⟨_, s2, _⟩ => .of (s2 _ _ ep)) ?_ ?_⟩
  · rintro i y H2 hi ⟨ys, s2, eC, hC⟩
    obtain ⟨d, hd, hv⟩ := hp.get hi
    rw [List.getElem?_map] at hd
    obtain ⟨e, he, rfl⟩ := Option.map_eq_some_iff.mp hd
    obtain ⟨t, rfl, hT⟩ := e_tup hv
    have hil := (List.getElem?_eq_some_iff.mp he).1
    rw [grown_len g] at hil
    refine ⟨rfl, _, rfl, 1, rfl, t, _, rfl, same_seqT s2 hT, (by show ¬ (HT.sIx 3 0 (some 1) = 0 ∧ HT.sIx 3 3 none = 3); decide), fun T nT => ?_⟩
    have nTC : C ≠ T := ne_of_none eC nT
    have eC' : ∀ o, (upd H2 T o) C = some (.lst ys) := fun o => by
      rw [upd_ne nTC]
      exact eC
    have hly : ys.length = i := by rw [hC.len, List.length_map, List.length_take, grown_len g]; omega
    refine ⟨_, eC' _, sizeS (by omega), _, same_set (same_add s2 nT) nC, upd_same, ?_⟩
    rw [take_next' he, List.map_append]
    refine (hC.sameT ((sameT_new nT).trans (sameT_lst (eC' _))) _ (nl_all (fun e => nl_p _) _)).app (.one (mk_p (.of ?_)))
    rw [upd_ne nTC.symm, upd_same]
    rfl
  · rintro H2 ⟨ys, s2, eC, hC⟩
    rw [take_map_all (by rw [hp.len, List.length_map])] at hC
    have hC' : DpAll K H2 ys (((grownM ws).map (·.2)).map pD) := by
      rw [List.map_map]
      exact hC
    obtain ⟨k1, k2⟩ := p_ok g hC' (.refl _)
    refine ⟨C, ys, rfl, .of eC, k1, k2, fun zs r pm pw nr => ?_⟩
    refine ⟨r, zs, rfl, .inl ⟨.of upd_same, fun T nT => ?_⟩⟩
    have sm3 := same_add (same_new (o := .lst zs) nr) nT (o := .tup zs)
    refine q _ _ (sm0.trans ((((same_new na).trans sm).trans s2).trans sm3)) (.tup (.of upd_same) ?_)
    exact (sorted_p g hC' (.refl _) pm pw).same sm3 _
end
end SW
/-! B6: reached_from. -/
namespace SW
open PySem PySem.Spec PyProof.Rows L2 SW0 SWM
theorem lay_ints : ∀ ns : List Int, PyData.canLayAll0 (ns.map .int) = true
  | [] => by simp [PyData.canLayAll0]
  | n :: ns => by simp [PyData.canLayAll0, PyData.canLay0, lay_ints ns]
theorem depth_ints : ∀ ns : List Int, PyData.depthAll (ns.map .int) = 0
  | [] => by simp [PyData.depthAll]
  | n :: ns => by simp [PyData.depthAll, PyData.depth, depth_ints ns]
theorem shaped_ints (ns : List Int) : SeqAt.shaped (.list (ns.map .int)) = true := by
  unfold SeqAt.shaped
  simp [PyData.canLay0, PyData.depth, lay_ints, depth_ints]
theorem shaped_nil : SeqAt.shaped (.list []) = true := shaped_ints []
theorem eqv_nil : ∀ ns : List PyData, PyData.eqv (.list ns) (.list []) = ns.isEmpty
  | [] => by simp [PyData.eqv, PyData.eqvAll]
  | n :: ns => by simp [PyData.eqv, PyData.eqvAll]
/-- the dict's keys -/
def KF (kvs : List (Key × V)) (F : List Int) : Prop := kvs.length = F.length ∧ ∀ x : Int, (valV kvs (Sum.inl x : Key)).isSome = decide (x ∈ F)
theorem KF.add {kvs : List (Key × V)} {F : List Int} (h : KF kvs F) {x : Int} {v : V} (hx : x ∉ F) : KF (putK kvs (Sum.inl x : Key) v) (F ++ [x]) := by
  have hn : valV kvs (Sum.inl x : Key) = none := by
    have := h.2 x
    rw [decide_eq_false hx] at this
    exact Option.not_isSome_iff_eq_none.mp (by rw [this]; exact Bool.false_ne_true)
  refine ⟨by rw [putK_new _ hn, List.length_append, List.length_append, h.1]; rfl, fun y => ?_⟩
  rw [valV_put]
  by_cases c : y = x
  · subst c
    rw [if_pos rfl, decide_eq_true (List.mem_append_right _ (List.mem_singleton.mpr rfl))]
    rfl
  · rw [if_neg (fun q => c (Sum.inl.inj q)), h.2 y]
    by_cases d : y ∈ F
    · rw [decide_eq_true d, decide_eq_true (List.mem_append_left _ d)]
    · rw [decide_eq_false d, decide_eq_false]
      intro q
      rcases List.mem_append.mp q with q | q
      · exact d q
      · exact c (List.mem_singleton.mp q)
def dirs (p : Int × Int) : List (Int × Int) := [(p.1, p.2), (p.2, p.1)]
theorem dr_next {t : List (Int × Int)} {i : Nat} {p : Int × Int} (h : t[i]? = some p) : dr (t.take (i + 1)) = dr (t.take i) ++ dirs p := by
  unfold dr
  rw [take_next' h, List.flatMap_append]
  simp [dirs]
section
variable {P : Program} {w : World} {K : PySem.W.Frag} {mg : Str → Option Value} {base : Heap}
abbrev sReach : Stmt := top 17
abbrev nReach : List Str := ["pairs", "start", "found", "waiting", "here", "one", "other", "near", "far"]
theorem scReach : FnScope nReach ["pairs", "start"] (defScope sReach) := ⟨rfl, rfl, rfl, by decide +kernel, rfl, by decide +kernel, by decide +kernel⟩
def spReach (K : PySem.W.Frag) : Sp := fun vs H Q _ => ∃ v t n, vs = [v, .int 0] ∧ Dp K H v (tD t) ∧ n ≤ 6 ∧ (∀ p ∈ t, R n p.1 ∧ R n p.2) ∧ SpP n t ∧ ∀ H' d kvs, Same H H' → H' d = some (.dK kvs) → kvs.length = n + 1 → Q (.ref d) H'
theorem ok_reach (D : Df K mg "reached_from" sReach ["pairs", "start"]) : Cal P w K mg base 1 "reached_from" (spReach K) := by
  refine cal_of D scReach (fun vs H Q E h => ?_) (fun f cdv A outer s H vs Q E hr h => ?_)
  · obtain ⟨v, t, n, rfl, _⟩ := h
    rfl
  obtain ⟨v, t, n, rfl, hv, h6, hR, sp, q⟩ := h
  have hu := hu_of hr
  refine ⟨_, pss_cons (ps_par (i := 2) (j := 3) rfl scReach.nd rfl rfl (by decide) rfl rfl (pa_cons (pe_disp (pps_cons (pv 1) pe_non pps_nil) (by rfl) (by rfl) (fun z => by cases z) (by decide)) (pa_cons (pe_lst (pa_cons (pv 1) pa_nil)) pa_nil)) (by rfl))
    (pss_cons (ps_while PassesOwn.never (pt_cmpR (op_neD hr.units) (pv 3) (pe_lst pa_nil) (nomark _))
      (pss_cons (ps_set (i := 4) scReach.nd rfl (.inl rfl) (pe_bm0 PySem.F.plainAttrs_list PySem.F.slot_list_pop PySem.F.type_list_pop mt_pop (pv 3)))
      (pss_one (ps_for PassesOwn.never rfl (pi_tup (pv 0)) (pg_tup rfl (pgs_cons (pg_name (i := 5) scReach.nd rfl (.inl rfl)) (pgs_cons (pg_name (i := 6) scReach.nd rfl (.inl rfl)) pgs_nil)))
        (pss_one (ps_for PassesOwn.never rfl (pi_tup (pe_tup (pa_cons (pe_tup (pa_cons (pv 5) (pa_cons (pv 6) pa_nil))) (pa_cons (pe_tup (pa_cons (pv 6) (pa_cons (pv 5) pa_nil))) pa_nil)))) (pg_tup rfl (pgs_cons (pg_name (i := 7) scReach.nd rfl (.inl rfl)) (pgs_cons (pg_name (i := 8) scReach.nd rfl (.inl rfl)) pgs_nil)))
          (pss_one (ps_if (PW.pt (pw_and (pt_cmpR op_eq (pv 7) (pv 4) (nomark _)) (pw_and1 (pt_cmp (pc_dnotin hu (pv 8) (pv 2))))))
            (pss_cons (ps_dput hu (pv 2) (pv 8) (pv 4) rfl) (pss_one (ps_expr (pe_bm PySem.F.plainAttrs_list PySem.F.slot_list_append PySem.F.type_list_append mt_append (pv 3) (pa_cons (pv 8) pa_nil))))) pss_nil))))))))
    (pss_one (ps_ret (pv 2)))), ?_⟩
  obtain ⟨a, xs, rfl, hT, hX⟩ := hv.tupI
  have nlt := nl_all nl_p t
  -- found, waiting
  intro D1 nD1
  refine ⟨_, rfl, upd_same, [(Sum.inl 0, .non)], rfl, (by decide), ?_⟩
  refine ⟨_, rfl, (by show 1 ≤ sizeLine; decide), fun D2 nD2 => ?_⟩
  refine ⟨_, _, rfl, ?_⟩
  have n12 : D1 ≠ D2 := ne_of_none upd_same nD2
  rw [upd_upd] at nD2 ⊢
  have sm0 : Same H (upd H D1 (.dK (mergeK [] [((Sum.inl 0 : Key), V.non)]))) := same_new nD1
  have nD2' : H D2 = none := sm0.free nD2
  refine ⟨fun m σ H' => ∃ F Wl kvs s4 s5 s6 s7 s8, σ = [some (.ref a), some (.int 0), some (.ref D1), some (.ref D2), s4, s5, s6, s7, s8] ∧ Same H H' ∧ H' D1 = some (.dK kvs) ∧ KF kvs F ∧ H' D2 = some (.lst (Wl.map V.int)) ∧
    Rs n F Wl ∧ Cl t F Wl (fun _ => False) ∧ Wl.length ≤ F.length ∧ m = 2 * nf n F + Wl.length, ⟨_, [0], [0], mergeK [] [((Sum.inl 0 : Key), V.non)], none, none, none, none, none, rfl, same_add sm0 nD2, ?_, ?_, upd_same, ?_, ?_, Nat.le_refl _, rfl⟩, ?_⟩
  · rw [upd_ne n12, upd_same]
  · refine ⟨rfl, fun x => ?_⟩
    show (valV [((Sum.inl 0 : Key), V.non)] (Sum.inl x)).isSome = _
    by_cases c : x = 0
    · subst c
      rw [valV_pos rfl]
      rfl
    · rw [valV_neg (fun z => c (Sum.inl.inj z).symm), valV_nil, decide_eq_false]
      · rfl
      · exact fun z => c (List.mem_singleton.mp z)
  · exact ⟨by simp, fun x hx => by rw [List.mem_singleton.mp hx]; exact R0 n, List.mem_singleton.mpr rfl, fun x hx => hx⟩
  · exact fun q _ h1 h2 _ => absurd h1 h2
  rintro m σ H1 ⟨F, Wl, kvs, s4, s5, s6, s7, s8, rfl, sm, eD1, kf, eD2, rs, cl, hle, rfl⟩
  -- while waiting != []
  refine ⟨_, rfl, Nat.zero_le _, fun B nB => ?_⟩
  have nB1 : D1 ≠ B := ne_of_none eD1 nB
  have nB2 : D2 ≠ B := ne_of_none eD2 nB
  have eD1b : (upd H1 B (.lst [])) D1 = some (.dK kvs) := by rw [upd_ne nB1]; exact eD1
  have eD2b : (upd H1 B (.lst [])) D2 = some (.lst (Wl.map V.int)) := by rw [upd_ne nB2]; exact eD2
  have smb : Same H (upd H1 B (.lst [])) := same_add sm nB
  generalize hH2 : upd H1 B (.lst []) = H2 at eD1b eD2b smb ⊢
  have eB : H2 B = some (.lst []) := by rw [← hH2]; exact upd_same
  refine ⟨.list (Wl.map .int), .list [], .lst (.of eD2b) (dp_ints Wl), .lst (.of eB) .nil, shaped_ints Wl, shaped_nil, _, rfl, ?_⟩
  rw [eqv_nil]
  rcases List.eq_nil_or_concat Wl with rfl | ⟨W0, here, eW⟩
  · refine iteF ?_
    exact ⟨_, rfl, q H2 D1 kvs smb eD1b (by rw [kf.1]; exact reach_all rs cl sp)⟩
  rw [List.concat_eq_append] at eW
  subst eW
  rw [show (!(List.map PyData.int (W0 ++ [here])).isEmpty) = true by simp]
  refine iteT ?_
  have hF := rs.len
  have hm : 2 * nf n F + W0.length < 2 * nf n F + (W0 ++ [here]).length := by rw [List.length_append, List.length_singleton]; omega
  have hle0 : W0.length + 1 ≤ F.length := by rw [List.length_append, List.length_singleton] at hle; exact hle
  refine ⟨fun σ' H' => ∃ m', m' < 2 * nf n F + (W0 ++ [here]).length ∧ ∃ F Wl kvs s4 s5 s6 s7 s8, σ' = [some (.ref a), some (.int 0), some (.ref D1), some (.ref D2), s4, s5, s6, s7, s8] ∧ Same H H' ∧ H' D1 = some (.dK kvs) ∧ KF kvs F ∧ H' D2 = some (.lst (Wl.map V.int)) ∧
    Rs n F Wl ∧ Cl t F Wl (fun _ => False) ∧ Wl.length ≤ F.length ∧ m' = 2 * nf n F + Wl.length, fun σ' H' z => z, ?_⟩
  generalize 2 * nf n F + (W0 ++ [here]).length = M at hm ⊢
  -- here = waiting.pop()
  refine ⟨_, rfl, .inl ⟨rfl, _, .of eD2b⟩, D2, _, .int here, rfl, rfl, eD2b, ?_, ?_⟩
  · rw [List.map_append, List.length_append, List.map_singleton, List.length_singleton, Nat.add_sub_cancel, List.getElem?_append_right (Nat.le_refl _), Nat.sub_self]
    rfl
  have eD1c : (upd H2 D2 (.lst ((W0 ++ [here]).map V.int).dropLast)) D1 = some (.dK kvs) := by rw [upd_ne n12]; exact eD1b
  have eD2c : (upd H2 D2 (.lst ((W0 ++ [here]).map V.int).dropLast)) D2 = some (.lst (W0.map V.int)) := by
    rw [upd_same, List.map_append, List.map_singleton, List.dropLast_concat]
  have smc : Same H (upd H2 D2 (.lst ((W0 ++ [here]).map V.int).dropLast)) := same_set smb nD2'
  generalize upd H2 D2 (.lst ((W0 ++ [here]).map V.int).dropLast) = H3 at eD1c eD2c smc ⊢
  have rs0 : Rs n F W0 := ⟨rs.nd, rs.rg, rs.z, fun x hx => rs.wf x (List.mem_append_left _ hx)⟩
  -- for one, other in pairs
  refine ⟨_, rfl, a, rfl, ⟨_, same_seqT smc hT⟩, for_tup (K := K) (a := a) (xs := xs) (fun i σ H' => ∃ F Wl kvs s5 s6 s7 s8, σ = [some (.ref a), some (.int 0), some (.ref D1), some (.ref D2), some (.int here), s5, s6, s7, s8] ∧ Same H H' ∧ H' D1 = some (.dK kvs) ∧ KF kvs F ∧
      H' D2 = some (.lst (Wl.map V.int)) ∧ Rs n F Wl ∧ Cl t F Wl (fun x => x = here) ∧ Wl.length ≤ F.length ∧ 2 * nf n F + Wl.length < M ∧ ∀ q ∈ dr (t.take i), q.1 = here → q.2 ∈ F)
    ⟨F, W0, kvs, s5, s6, s7, s8, rfl, smc, eD1c, kf, eD2c, rs0, cl.pop, by omega, hm, fun q hq => by simp [dr] at hq⟩ (fun i σ H' _ ⟨_, _, _, _, _, _, _, _, s', _⟩ => same_seqT s' hT) ?_ ?_⟩
  · clear hm hle hle0 hF cl rs0 rs eD1 eD2 eD1b eD2b eD1c eD2c sm smb smc kf eB hH2 nB nB1 nB2 s4 s5 s6 s7 s8
    rintro i y σ H4 hi ⟨F, Wl, kvs, s5, s6, s7, s8, rfl, sm, eD1, kf, eD2, rs, cl, hle, hm, hd⟩
    obtain ⟨d, hd', hv'⟩ := hX.get hi
    rw [List.getElem?_map] at hd'
    obtain ⟨p, hp, rfl⟩ := Option.map_eq_some_iff.mp hd'
    have hpR := hR p (List.mem_of_getElem? hp)
    obtain ⟨tp, rfl, hTp⟩ := p_tup hv'
    refine ⟨tp, _, rfl, same_seqT sm hTp, rfl, _, _, rfl, _, _, rfl, rfl, ?_⟩
    -- ((one, other), (other, one))
    refine ⟨_, rfl, _, rfl, (by show 2 ≤ sizeLine; decide), fun T1 nT1 => ?_⟩
    refine ⟨_, rfl, _, rfl, (by show 2 ≤ sizeLine; decide), fun T2 nT2 => ?_⟩
    refine ⟨(by show 2 ≤ sizeLine; decide), fun T3 nT3 => ?_⟩
    have e1 := same_new (o := .tup [.int p.1, .int p.2]) nT1
    have e2 := same_new (o := .tup [.int p.2, .int p.1]) nT2
    have e3 := same_new (o := .tup [.ref T1, .ref T2]) nT3
    have f1 := e3 _ _ (e2 T1 _ upd_same)
    have f2 := e3 T2 _ upd_same
    have f3 : (upd (upd (upd H4 T1 (.tup [.int p.1, .int p.2])) T2 (.tup [.int p.2, .int p.1])) T3 (.tup [.ref T1, .ref T2])) T3 = some (.tup [.ref T1, .ref T2]) := upd_same
    have sm5 := ((sm.trans e1).trans e2).trans e3
    have g1 := e3 _ _ (e2 _ _ (e1 _ _ eD1))
    have g2 := e3 _ _ (e2 _ _ (e1 _ _ eD2))
    generalize (upd (upd (upd H4 T1 (.tup [.int p.1, .int p.2])) T2 (.tup [.int p.2, .int p.1])) T3 (.tup [.ref T1, .ref T2])) = H5 at f1 f2 f3 sm5 g1 g2 ⊢
    have hDir : DpAll K H5 [.ref T1, .ref T2] ((dirs p).map pD) := .cons (mk_p (p := (p.1, p.2)) (.of f1)) (.cons (mk_p (p := (p.2, p.1)) (.of f2)) .nil)
    refine ⟨T3, rfl, ⟨_, .of f3⟩, for_tup (K := K) (a := T3) (xs := [.ref T1, .ref T2]) (fun j σ H' => ∃ F Wl kvs s7 s8, σ = [some (.ref a), some (.int 0), some (.ref D1), some (.ref D2), some (.int here), some (.int p.1), some (.int p.2), s7, s8] ∧ Same H H' ∧ SameT H5 H' ∧ H' D1 = some (.dK kvs) ∧ KF kvs F ∧
        H' D2 = some (.lst (Wl.map V.int)) ∧ Rs n F Wl ∧ Cl t F Wl (fun x => x = here) ∧ Wl.length ≤ F.length ∧ 2 * nf n F + Wl.length < M ∧ (∀ q ∈ dr (t.take i), q.1 = here → q.2 ∈ F) ∧ ∀ q ∈ (dirs p).take j, q.1 = here → q.2 ∈ F)
      ⟨F, Wl, kvs, s7, s8, rfl, sm5, .refl _, g1, kf, g2, rs, cl, hle, hm, hd, fun q hq => by simp at hq⟩ (fun j σ H' _ ⟨_, _, _, _, _, _, _, st, _⟩ => sameT_seqT st (.of f3)) ?_ ?_⟩
    · clear hle hm hd cl rs eD1 eD2 kf sm e1 e2 e3 nT1 nT2 nT3 g1 g2 s5 s6 s7 s8
      rintro j y σ H6 hj ⟨F, Wl, kvs, s7, s8, rfl, sm, st, eD1, kf, eD2, rs, cl, hle, hm, hd, hdj⟩
      obtain ⟨d, hd2, hv2⟩ := (hDir.sameT st _ (nl_all nl_p _)).get hj
      rw [List.getElem?_map] at hd2
      obtain ⟨z, hz, rfl⟩ := Option.map_eq_some_iff.mp hd2
      obtain ⟨tz, rfl, hTz⟩ := p_tup hv2
      have hzR : R n z.2 := by
        have := List.mem_of_getElem? hz
        rcases List.mem_cons.mp this with rfl | this
        · exact hpR.2
        · rw [List.mem_singleton.mp this]
          exact hpR.1
      have hF := rs.len
      refine ⟨tz, _, rfl, hTz, rfl, _, _, rfl, _, _, rfl, rfl, ?_⟩
      refine ⟨_, rfl, _, rfl, rfl, _, rfl, ?_⟩
      by_cases c : z.1 = here
      · rw [c, decide_eq_true rfl]
        refine iteT ?_
        refine ⟨_, rfl, _, rfl, D1, _, rfl, DGet.k (k := Sum.inl z.2) eD1, _, rfl, ?_⟩
        rw [kf.2 z.2]
        by_cases c2 : z.2 ∈ F
        · rw [decide_eq_true c2]
          refine iteF ?_
          refine ⟨F, Wl, kvs, _, _, rfl, sm, st, eD1, kf, eD2, rs, cl, hle, hm, hd, fun q hq hq1 => ?_⟩
          rw [take_next' hz] at hq
          rcases List.mem_append.mp hq with hq | hq
          · exact hdj q hq hq1
          · rw [List.mem_singleton.mp hq]
            exact c2
        · rw [decide_eq_false c2]
          refine iteT ?_
          -- found[far] = here; waiting.append(far)
          refine ⟨_, rfl, _, rfl, _, rfl, D1, _, rfl, DPut.k (k := Sum.inl z.2) eD1 (sizeS (by rw [kf.1]; omega)), ?_⟩
          have st1 := sameT_dK (o := .dK (putK kvs (Sum.inl z.2 : Key) (.int here))) eD1
          have sm1 : Same H (upd H6 D1 (.dK (putK kvs (Sum.inl z.2 : Key) (.int here)))) := same_set sm nD1
          have h1 : (upd H6 D1 (.dK (putK kvs (Sum.inl z.2 : Key) (.int here)))) D2 = some (.lst (Wl.map V.int)) := by
            rw [upd_ne n12.symm]
            exact eD2
          have h2 : (upd H6 D1 (.dK (putK kvs (Sum.inl z.2 : Key) (.int here)))) D1 = some (.dK (putK kvs (Sum.inl z.2 : Key) (.int here))) := upd_same
          generalize upd H6 D1 (.dK (putK kvs (Sum.inl z.2 : Key) (.int here))) = H7 at st1 sm1 h1 h2 ⊢
          refine ⟨_, rfl, .inl ⟨rfl, _, .of h1⟩, _, rfl, D2, _, _, rfl, rfl, h1, sizeS (by rw [List.length_map]; omega), ?_⟩
          have hnf := nf_snoc hzR c2
          refine ⟨F ++ [z.2], Wl ++ [z.2], putK kvs (Sum.inl z.2 : Key) (.int here), _, _, rfl, same_set sm1 nD2', (st.trans st1).trans (sameT_lst h1), ?_, kf.add c2, ?_, rs.add hzR c2, cl.add, ?_, ?_, fun q hq hq1 => List.mem_append_left _ (hd q hq hq1), fun q hq hq1 => ?_⟩
          · rw [upd_ne n12]
            exact h2
          · rw [upd_same, List.map_append]
            rfl
          · rw [List.length_append, List.length_append]
            simp only [List.length_singleton]
            omega
          · rw [List.length_append, List.length_singleton]
            omega
          · rw [take_next' hz] at hq
            rcases List.mem_append.mp hq with hq | hq
            · exact List.mem_append_left _ (hdj q hq hq1)
            · rw [List.mem_singleton.mp hq]
              exact List.mem_append_right _ (List.mem_singleton.mpr rfl)
      · rw [decide_eq_false (fun k => c (V.int.inj k))]
        refine iteF (iteF ?_)
        refine ⟨F, Wl, kvs, _, _, rfl, sm, st, eD1, kf, eD2, rs, cl, hle, hm, hd, fun q hq hq1 => ?_⟩
        rw [take_next' hz] at hq
        rcases List.mem_append.mp hq with hq | hq
        · exact hdj q hq hq1
        · rw [List.mem_singleton.mp hq] at hq1
          exact absurd hq1 c
    · rintro σ H6 ⟨F, Wl, kvs, s7, s8, rfl, sm, st, eD1, kf, eD2, rs, cl, hle, hm, hd, hdj⟩
      refine ⟨F, Wl, kvs, _, _, _, _, rfl, sm, eD1, kf, eD2, rs, cl, hle, hm, fun q hq hq1 => ?_⟩
      rw [dr_next hp] at hq
      rcases List.mem_append.mp hq with hq | hq
      · exact hd q hq hq1
      · exact hdj q hq hq1
  · rintro σ H4 ⟨F, Wl, kvs, s5, s6, s7, s8, rfl, sm, eD1, kf, eD2, rs, cl, hle, hm, hd⟩
    refine ⟨_, hm, F, Wl, kvs, _, _, _, _, _, rfl, sm, eD1, kf, eD2, rs, cl.done fun q hq => hd q ?_, hle, rfl⟩
    rw [List.take_of_length_le (by rw [hX.len, List.length_map]; exact Nat.le_refl _)]
    exact hq
end
end SW
/-! B7: what is_tree asks, over data. -/
namespace SW
open PySem PySem.Spec PyProof.Rows L2 SW0 SWM
def two : PyData → Bool
  | .tuple [_, _] => true
  | _ => false
def lv : PyData → List PyData
  | .tuple es => es
  | _ => []
def inB (n : Nat) : PyData → Bool
  | .int i => decide (0 ≤ i) && decide (i ≤ (n : Int))
  | _ => false
def asP : PyData → Int × Int
  | .tuple [.int a, .int b] => (a, b)
  | _ => (0, 0)
def chk1 (n : Nat) (ds : List PyData) : Bool := decide (ds.length = n) && ds.all two
def chk2 (n : Nat) (ds : List PyData) : Bool := ((ds.flatMap lv).map (inB n)).all id
def chk3 (t : List (Int × Int)) : Bool := t.all (fun p => decide (p.1 < p.2)) && decide (t.Pairwise fun a b => cp a < cp b)
def isM (ws : Ws) (ds : List PyData) : Bool := chk1 ws.length ds && chk2 ws.length ds && chk3 (ds.map asP) && decide (psum ws (ds.map asP) = due ws)
def LeafOk (ds : List PyData) : Prop := ∀ d ∈ ds, ∀ e ∈ lv d, (∃ i, e = .int i) ∨ ∃ b, e = .bool b
theorem two_shape {d : PyData} (h : two d = true) : ∃ a b, d = .tuple [a, b] := by
  unfold two at h
  split at h
  · exact ⟨_, _, rfl⟩
  · cases h
theorem inB_int {n : Nat} {d : PyData} (h : inB n d = true) : ∃ i, d = .int i ∧ R n i := by
  unfold inB at h
  split at h
  · rw [Bool.and_eq_true, decide_eq_true_eq, decide_eq_true_eq] at h
    exact ⟨_, rfl, h⟩
  · cases h
/-- through both checks: pairs of places -/
theorem chk12 {n : Nat} : ∀ {ds : List PyData}, ds.all two = true → chk2 n ds = true → ds = (ds.map asP).map pD ∧ ∀ p ∈ ds.map asP, R n p.1 ∧ R n p.2
  | [], _, _ => ⟨rfl, fun _ h => nomatch h⟩
  | d :: ds, h1, h2 => by
    rw [List.all_cons, Bool.and_eq_true] at h1
    obtain ⟨a, b, rfl⟩ := two_shape h1.1
    have e : chk2 n (.tuple [a, b] :: ds) = (inB n a && (inB n b && chk2 n ds)) := by
      unfold chk2
      simp [lv]
    rw [e, Bool.and_eq_true, Bool.and_eq_true] at h2
    obtain ⟨i, rfl, hi⟩ := inB_int h2.1
    obtain ⟨j, rfl, hj⟩ := inB_int h2.2.1
    obtain ⟨k1, k2⟩ := chk12 h1.2 h2.2.2
    refine ⟨?_, fun p hp => ?_⟩
    · rw [List.map_cons, List.map_cons, ← k1]
      rfl
    · rw [List.map_cons] at hp
      rcases List.mem_cons.mp hp with rfl | hp
      · exact ⟨hi, hj⟩
      · exact k2 p hp
theorem asP_pD : ∀ t : List (Int × Int), (t.map pD).map asP = t
  | [] => rfl
  | p :: t => by
    rw [List.map_cons, List.map_cons, asP_pD t]
    rfl
theorem two_pD : ∀ t : List (Int × Int), (t.map pD).all two = true
  | [] => rfl
  | p :: t => by
    rw [List.map_cons, List.all_cons, two_pD t]
    rfl
theorem chk2_pD {n : Nat} : ∀ {t : List (Int × Int)}, (∀ p ∈ t, R n p.1 ∧ R n p.2) → chk2 n (t.map pD) = true
  | [], _ => rfl
  | p :: t, h => by
    have e : chk2 n ((p :: t).map pD) = (inB n (.int p.1) && (inB n (.int p.2) && chk2 n (t.map pD))) := by
      unfold chk2
      simp [lv, pD]
    have hp := h p List.mem_cons_self
    rw [e, chk2_pD fun q hq => h q (List.mem_cons_of_mem _ hq)]
    simp [inB, hp.1.1, hp.1.2, hp.2.1, hp.2.2]
theorem leaf_pD (t : List (Int × Int)) : LeafOk (t.map pD) := by
  intro d hd e he
  obtain ⟨p, _, rfl⟩ := List.mem_map.mp hd
  simp [pD, lv] at he
  rcases he with rfl | rfl
  · exact .inl ⟨_, rfl⟩
  · exact .inl ⟨_, rfl⟩
/-- the tree asked about -/
theorem isM_ok {ws : Ws} {t : List (Int × Int)} (o : TreeOk ws.length t) : isM ws (t.map pD) = decide (psum ws t = due ws) := by
  have c1 : chk1 ws.length (t.map pD) = true := by
    unfold chk1
    rw [two_pD, List.length_map, o.len, decide_eq_true rfl]
    rfl
  have c2 : chk2 ws.length (t.map pD) = true := chk2_pD fun p hp => by
    have := o.rng p hp
    exact ⟨⟨by omega, by omega⟩, ⟨by omega, by omega⟩⟩
  have c3 : chk3 t = true := by
    unfold chk3
    rw [decide_eq_true o.asc, Bool.and_true, List.all_eq_true]
    exact fun p hp => decide_eq_true (o.rng p hp).2.1
  unfold isM
  rw [c1, c2, asP_pD, c3]
  rfl
theorem eqv_pair (p q : Int × Int) : PyData.eqv (pD p) (pD q) = decide (p = q) := by
  obtain ⟨a, b⟩ := p
  obtain ⟨c, d⟩ := q
  simp [pD, PyData.eqv, PyData.eqvAll]
  by_cases h1 : a = c <;> by_cases h2 : b = d <;> simp [h1, h2]
theorem eqvAll_pairs : ∀ t u : List (Int × Int), PyData.eqvAll (t.map pD) (u.map pD) = decide (t = u)
  | [], [] => by simp [PyData.eqvAll]
  | [], _ :: _ => by simp [PyData.eqvAll]
  | _ :: _, [] => by simp [PyData.eqvAll]
  | p :: t, q :: u => by
    rw [List.map_cons, List.map_cons, PyData.eqvAll, eqv_pair, eqvAll_pairs t u]
    by_cases h1 : p = q <;> by_cases h2 : t = u <;> simp [h1, h2]
theorem eqv_pairs (t u : List (Int × Int)) : PyData.eqv (.list (t.map pD)) (.list (u.map pD)) = decide (t = u) := by
  rw [PyData.eqv, eqvAll_pairs]
theorem lay_pairs : ∀ t : List (Int × Int), PyData.canLayAll0 (t.map pD) = true
  | [] => by simp [PyData.canLayAll0]
  | p :: t => by simp [PyData.canLayAll0, PyData.canLay0, pD, lay_pairs t]
theorem depth_pairs : ∀ t : List (Int × Int), PyData.depthAll (t.map pD) ≤ 1
  | [] => by simp [PyData.depthAll]
  | p :: t => by
    have := depth_pairs t
    simp [PyData.depthAll, PyData.depth, pD]
    omega
theorem shaped_pairs (t : List (Int × Int)) : SeqAt.shaped (.list (t.map pD)) = true := by
  have := depth_pairs t
  unfold SeqAt.shaped
  simp [PyData.canLay0, PyData.depth, lay_pairs]
  omega
section
variable {K : PySem.W.Frag} {H : Hp}
theorem not_tup_ty {a : String} {x : V} (h : TyX K H x (.type a)) (k : kitB a "tuple" = some false) : NotTup K H x := ⟨_, h, kit_ty k⟩
/-- a value of the data: a tuple, or none -/
theorem dp_tup {x : V} {d : PyData} (h : Dp K H x d) : (∃ a xs es, d = .tuple es ∧ x = .ref a ∧ SqT K H a xs ∧ DpAll K H xs es) ∨ (NotTup K H x ∧ two d = false) := by
  cases h with
  | non => exact .inr ⟨not_tup_ty (.base .non) (by decide +kernel), rfl⟩
  | bl b => exact .inr ⟨not_tup_ty (.base (.bl b)) (by decide +kernel), rfl⟩
  | int i => exact .inr ⟨not_tup_ty (.base (.int i)) (by decide +kernel), rfl⟩
  | str x => exact .inr ⟨not_tup_ty (.base (.str x)) (by decide +kernel), rfl⟩
  | lst hs ha => exact .inr ⟨not_tup_ty (ty_lst hs) (by decide +kernel), rfl⟩
  | tup hs ha => exact .inl ⟨_, _, _, rfl, rfl, hs, ha⟩
theorem two_len {es : List PyData} : two (.tuple es) = (decide ((2 : Int) ≤ (es.length : Int)) && decide ((es.length : Int) ≤ 2)) := by
  match es with
  | [] => rfl
  | [_] => rfl
  | [_, _] => rfl
  | _ :: _ :: _ :: r =>
    rw [show two (PyData.tuple (_ :: _ :: _ :: r)) = false from rfl]
    symm
    rw [Bool.and_eq_false_iff]
    right
    rw [decide_eq_false_iff_not]
    simp only [List.length_cons]
    omega
/-- the pairs' addresses -/
theorem keys_of : ∀ {xs : List V} {t : List (Int × Int)}, DpAll K H xs (t.map pD) → ∃ ks : List (Addr × List Int), xs = ks.map (fun p => V.ref p.1) ∧ (∀ p ∈ ks, SqT K H p.1 (p.2.map V.int)) ∧ ks.map (·.2) = t.map fun p => [p.1, p.2]
  | _, [], h => by
    cases h
    exact ⟨[], rfl, (fun _ h => nomatch h), rfl⟩
  | _, p :: t, h => by
    cases h with
    | cons h1 h2 =>
      obtain ⟨ks, e1, e2, e3⟩ := keys_of h2
      obtain ⟨a, rfl, hs⟩ := p_tup h1
      refine ⟨(a, [p.1, p.2]) :: ks, by rw [e1]; rfl, fun q hq => ?_, by rw [List.map_cons, e3]; rfl⟩
      rcases List.mem_cons.mp hq with rfl | hq
      · exact hs
      · exact e2 q hq
theorem keys_data {us : List (Addr × List Int)} : ∀ {t : List (Int × Int)}, us.map (·.2) = t.map (fun p => [p.1, p.2]) → (∀ p ∈ us, SqT K H p.1 (p.2.map V.int)) → DpAll K H (us.map fun p => V.ref p.1) (t.map pD) := by
  induction us with
  | nil =>
    intro t e _
    cases t with
    | nil => exact .nil
    | cons a t => exact nomatch e
  | cons u us ih =>
    intro t e h
    cases t with
    | nil => exact nomatch e
    | cons a t =>
      rw [List.map_cons, List.map_cons] at e
      injection e with e1 e2
      have hu := h u List.mem_cons_self
      rw [e1] at hu
      exact .cons (mk_p hu) (ih e2 fun p hp => h p (List.mem_cons_of_mem _ hp))
end
end SW
/-! B8: is_tree, is_least_tree. -/
namespace SW
open PySem PySem.Spec PyProof.Rows L2 SW0 SWM
/-- two for in a comprehension, both over tuples that stay -/
theorem lc2_tup {K : PySem.W.Frag} {a : Addr} {xs : List V} {g g1 : TG} {tt1 : TT} {te tl : TE} {vs vs1 : List Nat} {σ : L2.St} {H1 : Hp} {D : Addr} {Qd : Hp → Prop} (Pv : Nat → Hp → Prop) (h0 : Pv 0 (upd H1 D (.lst []))) (hl : ∀ i H, i ≤ xs.length → Pv i H → SqT K H a xs)
    (hs : ∀ i x H, xs[i]? = some x → Pv i H → g x (wipe σ vs) H fun σ2 H2 => wipe σ2 vs = wipe σ vs ∧ iTup K tl σ2 H2 fun J1 H4 => ∃ W1 : Nat → Nat → Hp → Prop, (∃ m, W1 0 m H4) ∧ ∀ j k H, W1 j k H →
      (J1.stop j H ∧ Pv (i + 1) H) ∨ (J1.go j H ∧ ∃ Nx1 : Hp → Prop, (∀ H', Nx1 H' → ∃ k', k' < k ∧ W1 (j + 1) k' H') ∧ ∀ x H', J1.yld j H x H' → g1 x (wipe σ2 vs1) H' fun σ3 H5 => wipe σ3 vs1 = wipe σ2 vs1 ∧ tt1 σ3 H5 fun b H6 =>
        if b = true then te σ3 H6 fun y H7 => ∃ acc, H7 D = some (.lst acc) ∧ acc.length < sizeLine ∧ Nx1 (upd H7 D (.lst (acc ++ [y]))) else Nx1 H6)) (hd : ∀ H, Pv xs.length H → Qd H) :
    ∃ W : Nat → Nat → Hp → Prop, (∃ m, W 0 m (upd H1 D (.lst []))) ∧ ∀ i m H, W i m H →
      ((Itt K a).stop i H ∧ Qd H) ∨ ((Itt K a).go i H ∧ ∃ Nx : Hp → Prop, (∀ H', Nx H' → ∃ m', m' < m ∧ W (i + 1) m' H') ∧ ∀ x H', (Itt K a).yld i H x H' → g x (wipe σ vs) H' fun σ2 H2 => wipe σ2 vs = wipe σ vs ∧ tYes σ2 H2 fun b H3 =>
        if b = true then iTup K tl σ2 H3 fun J1 H4 => ∃ W1 : Nat → Nat → Hp → Prop, (∃ m, W1 0 m H4) ∧ ∀ j k H, W1 j k H →
          (J1.stop j H ∧ Nx H) ∨ (J1.go j H ∧ ∃ Nx1 : Hp → Prop, (∀ H', Nx1 H' → ∃ k', k' < k ∧ W1 (j + 1) k' H') ∧ ∀ x H', J1.yld j H x H' → g1 x (wipe σ2 vs1) H' fun σ3 H5 => wipe σ3 vs1 = wipe σ2 vs1 ∧ tt1 σ3 H5 fun b H6 =>
            if b = true then te σ3 H6 fun y H7 => ∃ acc, H7 D = some (.lst acc) ∧ acc.length < sizeLine ∧ Nx1 (upd H7 D (.lst (acc ++ [y]))) else Nx1 H6) else Nx H3) := by
  refine ⟨fun i m H => m + i = xs.length ∧ Pv i H, ⟨xs.length, rfl, h0⟩, ?_⟩
  rintro i m H ⟨hm, p⟩
  have q := hl i H (by omega) p
  rcases Nat.eq_zero_or_pos m with z | z
  · have e : i = xs.length := by omega
    subst e
    exact .inl ⟨⟨xs, q, Nat.le_refl _⟩, hd H p⟩
  · have hlt : i < xs.length := by omega
    refine .inr ⟨⟨xs, xs[i], q, List.getElem?_eq_getElem hlt⟩, Pv (i + 1), fun H' p' => ⟨m - 1, by omega, by omega, p'⟩, ?_⟩
    rintro x H' ⟨rfl, k⟩
    exact hs i x _ (k xs q) p
/-- the inner walk of such a comprehension -/
theorem in_tup {K : PySem.W.Frag} {a : Addr} {xs : List V} {g1 : TG} {te : TE} {vs1 : List Nat} {σ2 : L2.St} {H4 : Hp} {D : Addr} {Nx : Hp → Prop} (Pv : Nat → Hp → Prop) (h0 : Pv 0 H4) (hl : ∀ i H, i ≤ xs.length → Pv i H → SqT K H a xs)
    (hs : ∀ j x H, xs[j]? = some x → Pv j H → g1 x (wipe σ2 vs1) H fun σ3 H5 => wipe σ3 vs1 = wipe σ2 vs1 ∧ te σ3 H5 fun y H7 => ∃ acc, H7 D = some (.lst acc) ∧ acc.length < sizeLine ∧ Pv (j + 1) (upd H7 D (.lst (acc ++ [y])))) (hd : ∀ H, Pv xs.length H → Nx H) :
    ∃ W1 : Nat → Nat → Hp → Prop, (∃ m, W1 0 m H4) ∧ ∀ j k H, W1 j k H →
      ((Itt K a).stop j H ∧ Nx H) ∨ ((Itt K a).go j H ∧ ∃ Nx1 : Hp → Prop, (∀ H', Nx1 H' → ∃ k', k' < k ∧ W1 (j + 1) k' H') ∧ ∀ x H', (Itt K a).yld j H x H' → g1 x (wipe σ2 vs1) H' fun σ3 H5 => wipe σ3 vs1 = wipe σ2 vs1 ∧ tYes σ3 H5 fun b H6 =>
        if b = true then te σ3 H6 fun y H7 => ∃ acc, H7 D = some (.lst acc) ∧ acc.length < sizeLine ∧ Nx1 (upd H7 D (.lst (acc ++ [y]))) else Nx1 H6) := by
  refine ⟨fun i m H => m + i = xs.length ∧ Pv i H, ⟨xs.length, rfl, h0⟩, ?_⟩
  rintro i m H ⟨hm, p⟩
  have q := hl i H (by omega) p
  rcases Nat.eq_zero_or_pos m with z | z
  · have e : i = xs.length := by omega
    subst e
    exact .inl ⟨⟨xs, q, Nat.le_refl _⟩, hd H p⟩
  · have hlt : i < xs.length := by omega
    refine .inr ⟨⟨xs, xs[i], q, List.getElem?_eq_getElem hlt⟩, Pv (i + 1), fun H' p' => ⟨m - 1, by omega, by omega, p'⟩, ?_⟩
    rintro x H' ⟨rfl, k⟩
    exact hs i x _ (k xs q) p
section
variable {P : Program} {w : World} {K : PySem.W.Frag} {mg : Str → Option Value} {base : Heap}
abbrev sIs : Stmt := top 18
abbrev nIs : List Str := ["wires", "value", "many", "pair", "place", "one", "other"]
theorem scIs : FnScope nIs ["wires", "value"] (defScope sIs) := ⟨rfl, rfl, rfl, by decide +kernel, rfl, by decide +kernel, by decide +kernel⟩
/-- what is known of the value, and what is told of it -/
def KnownV (K : PySem.W.Frag) (H : Hp) (v : V) (ws : Ws) (b : Bool) : Prop := (NotTup K H v ∧ b = false) ∨
  ∃ ds, Dp K H v (.tuple ds) ∧ (chk1 ws.length ds = true → LeafOk ds) ∧ (chk1 ws.length ds = true → chk2 ws.length ds = true → chk3 (ds.map asP) = true → SpP ws.length (ds.map asP)) ∧ b = isM ws ds
def spIs (K : PySem.W.Frag) : Sp := fun vs H Q _ => ∃ x v ws b, vs = [x, v] ∧ Dp K H x (wD ws) ∧ Good ws ∧ KnownV K H v ws b ∧ ∀ H', Same H H' → Q (.bl b) H'
theorem ok_is (B : Bi mg) (D : Df K mg "is_tree" sIs ["wires", "value"]) (cT : Cal P w K mg base 1 "tuple_of" (spTupleOf K)) (cW : Cal P w K mg base 2 "within" spWithin) (cR : Cal P w K mg base 1 "reached_from" (spReach K)) (cC : Cal P w K mg base 1 "cost_between" (spCost K))
    (cS : Cal P w K mg base 4 "tree_sum" (spSum K)) : Cal P w K mg base 5 "is_tree" (spIs K) := by
  refine cal_of D scIs (fun vs H Q E h => ?_) (fun f cdv A outer s H vs Q E hr h => ?_)
  · obtain ⟨x, v, ws, b, rfl, _⟩ := h
    rfl
  obtain ⟨x, v, ws, b, rfl, hx, g, hk, q⟩ := h
  refine ⟨_, pss_cons (ps_set (i := 2) scIs.nd rfl (.inr rfl) (pe_callB call_len_seq (by rfl) B.len PySem.boot_len (pa_cons (pv 0) pa_nil)))
    (pss_cons (ps_if (PW.pt (pw_or (pt_not (pt_val (pc cT hr (by decide) (pa_cons (pv 1) (pa_cons (pv 2) (pa_cons (pv 2) pa_nil))))))
        (pw_or1 (pt_not (pt_val (pe_callB (cr_all rfl) (by rfl) B.all (by decide +kernel) (pa_cons
          (pe_lc (own := [("pair", 3)]) (g := gName 3) (tt := tYes) rfl scIs.nd (pi_tup (pv 1)) (blkOk_by (N := nIs) (sc := defScope sIs) (by decide +kernel)) (fun _ _ _ _ _ => pg_name (i := 3) scIs.nd rfl (Or.inl rfl)) (fun _ _ _ _ _ => pts_nil)
            (fun _ _ _ _ _ => pc cT hr (by decide) (pa_cons (pv 3) (pa_cons pe_int (pa_cons pe_int pa_nil))))) pa_nil))))))) (pss_one (ps_ret pe_bl)) pss_nil)
    (pss_cons (ps_if (pt_not (pt_val (pe_callB (cr_all rfl) (by rfl) B.all (by decide +kernel) (pa_cons
          (pe_lc2 (own := [("pair", 3), ("place", 4)]) (vs1 := [4]) (g := gName 3) (tt := tYes) (g1 := gName 4) (tt1 := tYes) (wi1 := iTup K (tVar 3)) rfl scIs.nd (pi_tup (pv 1)) (blkOk_by (N := nIs) (sc := defScope sIs) (by decide +kernel)) (by decide) (fun _ _ _ _ _ => pg_name (i := 3) scIs.nd rfl (Or.inl rfl)) (fun _ _ _ _ _ => pts_nil)
            (fun _ _ _ _ _ => pi_tup (pv 3)) (fun _ _ _ _ _ => pg_name (i := 4) scIs.nd rfl (Or.inl rfl)) (fun _ _ _ _ _ => pts_nil)
            (fun _ _ _ _ _ => pc cW hr (by decide) (pa_cons (pv 4) (pa_cons pe_int (pa_cons (pv 2) pa_nil))))) pa_nil)))) (pss_one (ps_ret pe_bl)) pss_nil)
    (pss_cons (ps_if (PW.pt (pw_or (pt_not (pt_val (pe_callB (cr_all rfl) (by rfl) B.all (by decide +kernel) (pa_cons
          (pe_lc (own := [("pair", 3)]) (g := gName 3) (tt := tYes) (te := tOp (rI0 fun i j => .bl (decide (i < j))) (tOp (rIxT K) (tVar 3) (tC (.int 0))) (tOp (rIxT K) (tVar 3) (tC (.int 1)))) rfl scIs.nd (pi_tup (pv 1)) (blkOk_by (N := nIs) (sc := defScope sIs) (by decide +kernel))
            (fun _ _ _ _ _ => pg_name (i := 3) scIs.nd rfl (Or.inl rfl)) (fun _ _ _ _ _ => pts_nil)
            (fun _ _ _ _ _ => pe_cmpR op_lt (pe_ix ix_tup (pv 3) pe_int (fun _ _ => rfl)) (pe_ix ix_tup (pv 3) pe_int (fun _ _ => rfl)) (nomark _))) pa_nil))))
        (pw_or1 (pt_cmpR (op_neD hr.units) (pe_callTy call_list_of (by rfl) B.list (by decide +kernel) (pa_cons (pv 1) pa_nil))
          (pe_callB (cr_sortedT rfl) (by rfl) B.sorted (by decide +kernel) (pa_cons (pe_callTy (cr_setTT rfl hr.units) (by rfl) B.set (by decide +kernel) (pa_cons (pv 1) pa_nil)) pa_nil)) (nomark _))))) (pss_one (ps_ret pe_bl)) pss_nil)
    (pss_cons (ps_if (pt_cmpR op_ne (pe_callB call_lenD (by rfl) B.len PySem.boot_len (pa_cons (pc cR hr (by decide) (pa_cons (pv 1) (pa_cons pe_int pa_nil))) pa_nil)) (pe_op op_add (pv 2) pe_int) (nomark _)) (pss_one (ps_ret pe_bl)) pss_nil)
    (pss_one (ps_ret (pe_cmpR op_eq (pe_callB (cr_sum rfl) (by rfl) B.sum (by decide +kernel) (pa_cons
        (pe_lc (own := [("one", 5), ("other", 6)]) (g := gTup K 2 (gCons (gName 5) (gCons (gName 6) gNil))) (tt := tYes) rfl scIs.nd (pi_tup (pv 1)) (blkOk_by (N := nIs) (sc := defScope sIs) (by decide +kernel))
          (fun _ _ _ _ _ => pg_tup rfl (pgs_cons (pg_name (i := 5) scIs.nd rfl (.inl rfl)) (pgs_cons (pg_name (i := 6) scIs.nd rfl (.inl rfl)) pgs_nil))) (fun _ _ _ _ _ => pts_nil)
          (fun _ _ _ _ _ => pc cC hr (by decide) (pa_cons (pv 0) (pa_cons (pv 5) (pa_cons (pv 6) pa_nil))))) pa_nil)) (pc cS hr (by decide) (pa_cons (pv 0) pa_nil)) (nomark _)))))))), ?_⟩
  obtain ⟨tw, wxs, rfl, hTw, hlw, _⟩ := w_row hx
  have h6 := g.hi
  -- many = len(wires)
  refine ⟨_, rfl, tw, wxs, rfl, .inr hTw, ?_⟩
  rw [hlw]
  -- the form
  rcases hk with ⟨hn, rfl⟩ | ⟨ds, hv, hleaf, hsp, rfl⟩
  · refine ⟨_, rfl, _, rfl, _, rfl, _, _, _, rfl, .inr ⟨hn, _, rfl, ?_⟩⟩
    exact iteT (iteT (q H (.refl H)))
  obtain ⟨a, xs, rfl, hT, hX⟩ := hv.tupI
  have hlx := hX.len
  refine ⟨_, rfl, _, rfl, _, rfl, _, _, _, rfl, .inl ⟨a, xs, rfl, hT, _, rfl, ?_⟩⟩
  by_cases c0 : ds.length = ws.length
  · rw [both_true (a := (ws.length : Int) ≤ (xs.length : Int)) (b := (xs.length : Int) ≤ (ws.length : Int)) (by omega) (by omega)]
    refine iteF ?_
    refine ⟨_, rfl, a, rfl, ⟨xs, hT⟩, fun C nC => lc_tup (K := K) (a := a) (xs := xs) (fun i H' => Same H H' ∧ H' C = some (.lst ((ds.take i).map fun d => V.bl (two d)))) ⟨same_new nC, upd_same⟩ (fun i H' _ p => same_seqT p.1 hT) ?_ ?_⟩
    · rintro i y H1 hi ⟨s1, eC⟩
      obtain ⟨d, hd, hdv⟩ := hX.get hi
      have hil := (List.getElem?_eq_some_iff.mp hd).1
      have hsz : ((ds.take i).map fun d => V.bl (two d)).length < sizeLine := sizeS (by rw [List.length_map, List.length_take]; omega)
      refine ⟨rfl, _, rfl, y, 2, 2, rfl, ?_⟩
      rcases dp_tup (hdv.same s1 _) with ⟨b, ys, es, rfl, rfl, hS, hA⟩ | ⟨hn, ht⟩
      · refine .inl ⟨b, ys, rfl, hS, _, eC, hsz, same_set s1 nC, ?_⟩
        rw [upd_same, take_next' hd, List.map_append, hA.len, ← two_len]
        rfl
      · refine .inr ⟨hn, _, eC, hsz, same_set s1 nC, ?_⟩
        rw [upd_same, take_next' hd, List.map_append, ← ht]
        rfl
    · rintro H1 ⟨s1, eC⟩
      rw [take_map_all hlx] at eC
      refine ⟨C, ds.map two, rfl, .of (by rw [List.map_map]; exact eC), _, rfl, ?_⟩
      rw [show (ds.map two).all id = ds.all two by rw [List.all_map]; rfl]
      by_cases c1 : ds.all two = true
      · have cc1 : chk1 ws.length ds = true := by
          unfold chk1
          rw [decide_eq_true c0, c1]
          rfl
        have hlf := hleaf cc1
        have hTT := same_seqT s1 hT
        rw [c1]
        refine iteF ?_
        -- all places within
        refine ⟨_, rfl, a, rfl, ⟨xs, hTT⟩, fun C2 nC2 => lc2_tup (K := K) (a := a) (xs := xs) (tl := tVar 3) (fun i H' => Same H1 H' ∧ H' C2 = some (.lst (((ds.take i).flatMap lv).map fun e => V.bl (inB ws.length e))) ∧ ((ds.take i).flatMap lv).length ≤ 2 * i) ⟨same_new nC2, upd_same, Nat.le_refl _⟩ (fun i H' _ p => same_seqT p.1 hTT) ?_ ?_⟩
        · rintro i y H2 hi ⟨s2, eC2, l2⟩
          obtain ⟨d, hd, hdv⟩ := hX.get hi
          have hil := (List.getElem?_eq_some_iff.mp hd).1
          have hdm := List.mem_of_getElem? hd
          obtain ⟨e1, e2, rfl⟩ := two_shape (List.all_eq_true.mp c1 d hdm)
          obtain ⟨b, ys, rfl, hS, hA⟩ := hdv.tupI
          refine ⟨rfl, _, rfl, b, rfl, ⟨ys, same_seqT (s1.trans s2) hS⟩, in_tup (K := K) (a := b) (xs := ys) (fun j H' => Same H1 H' ∧ H' C2 = some (.lst (((ds.take i).flatMap lv ++ [e1, e2].take j).map fun e => V.bl (inB ws.length e)))) ⟨s2, ?_⟩ (fun j H' _ p => same_seqT (s1.trans p.1) hS) ?_ ?_⟩
          · rw [List.take_zero, List.append_nil]
            exact eC2
          · rintro j z H3 hj ⟨s3, eC3⟩
            obtain ⟨e, he, hev⟩ := hA.get hj
            have hel := hlf _ hdm e (List.mem_of_getElem? he)
            have hsz : (((ds.take i).flatMap lv ++ [e1, e2].take j).map fun e => V.bl (inB ws.length e)).length < sizeLine := by
              refine sizeS ?_
              rw [List.length_map, List.length_append, List.length_take, show [e1, e2].length = 2 from rfl]
              omega
            refine ⟨rfl, _, rfl, _, rfl, z, 0, (ws.length : Int), rfl, ?_⟩
            rcases hel with ⟨k, rfl⟩ | ⟨k, rfl⟩
            · refine .inl ⟨k, hev.intI, _, eC3, hsz, same_set s3 nC2, ?_⟩
              rw [upd_same, take_next' he, ← List.append_assoc]
              simp only [List.map_append, List.map_cons, List.map_nil]
              rfl
            · have ez : z = .bl k := by
                cases hev
                rfl
              refine .inr ⟨k, ez, _, eC3, hsz, same_set s3 nC2, ?_⟩
              rw [upd_same, take_next' he, ← List.append_assoc]
              simp only [List.map_append, List.map_cons, List.map_nil]
              rfl
          · rintro H3 ⟨s3, eC3⟩
            have hy : ys.length = 2 := hA.len
            rw [hy] at eC3
            refine ⟨s3, ?_, ?_⟩
            · rw [take_next' hd, List.flatMap_append]
              simpa [lv] using eC3
            · rw [take_next' hd, List.flatMap_append, List.length_append, show ([PyData.tuple [e1, e2]].flatMap lv).length = 2 from rfl]
              omega
        · rintro H2 ⟨s2, eC2, _⟩
          rw [hlx, List.take_length] at eC2
          refine ⟨C2, (ds.flatMap lv).map (inB ws.length), rfl, .of (by rw [List.map_map]; exact eC2), _, rfl, ?_⟩
          rw [show ((ds.flatMap lv).map (inB ws.length)).all id = chk2 ws.length ds from rfl]
          by_cases cc2 : chk2 ws.length ds = true
          · rw [cc2]
            refine iteF ?_
            -- pairs of places
            obtain ⟨et, hR⟩ := chk12 c1 cc2
            have hsp' := hsp cc1 cc2
            have hM : isM ws ds = (chk3 (ds.map asP) && decide (psum ws (ds.map asP) = due ws)) := by
              unfold isM
              rw [cc1, cc2]
              rfl
            rw [hM] at q
            have lt : (ds.map asP).length = ws.length := by rw [List.length_map, c0]
            generalize ds.map asP = t at et hR hsp' q lt
            subst et
            have s12 := s1.trans s2
            have hT2 := same_seqT s12 hT
            have hX2 : DpAll K H2 xs (t.map pD) := hX.same s12 _
            have hv2 : Dp K H2 (.ref a) (tD t) := .tup hT2 hX2
            have hx2 := hx.same s12 _
            have q2 : ∀ H', Same H2 H' → Q (.bl (chk3 t && decide (psum ws t = due ws))) H' := fun H' s' => q H' (s12.trans s')
            have hlt : xs.length = t.length := by rw [hX2.len, List.length_map]
            clear hX hT hv hleaf hsp hM hlf hTT eC eC2 q s1 s2 s12 hx hTw c1 cc1 cc2 c0 hlx
            -- the order within the pairs
            refine ⟨_, rfl, a, rfl, ⟨xs, hT2⟩, fun C3 nC3 => lc_tup (K := K) (a := a) (xs := xs) (fun i H' => Same H2 H' ∧ H' C3 = some (.lst ((t.take i).map fun p => V.bl (decide (p.1 < p.2))))) ⟨same_new nC3, upd_same⟩ (fun i H' _ p => same_seqT p.1 hT2) ?_ ?_⟩
            · rintro i y H3 hi ⟨s3, eC3⟩
              obtain ⟨d, hd, hdv⟩ := hX2.get hi
              rw [List.getElem?_map] at hd
              obtain ⟨p, hp, rfl⟩ := Option.map_eq_some_iff.mp hd
              obtain ⟨b, rfl, hS⟩ := p_tup (hdv.same s3 _)
              have hil := (List.getElem?_eq_some_iff.mp hp).1
              refine ⟨rfl, _, rfl, b, _, 0, .int p.1, rfl, rfl, hS, at0, _, rfl, b, _, 1, .int p.2, rfl, rfl, hS, atI_nat (j := 1) rfl, _, _, rfl, rfl, ?_⟩
              refine ⟨_, eC3, sizeS (by rw [List.length_map, List.length_take]; omega), same_set s3 nC3, ?_⟩
              rw [upd_same, take_next' hp, List.map_append]
              rfl
            · rintro H3 ⟨s3, eC3⟩
              rw [take_map_all hlt] at eC3
              refine ⟨C3, t.map fun p => decide (p.1 < p.2), rfl, .of (by rw [List.map_map]; exact eC3), _, rfl, ?_⟩
              rw [show (t.map fun p => decide (p.1 < p.2)).all id = t.all (fun p => decide (p.1 < p.2)) by rw [List.all_map]; rfl]
              by_cases c3 : t.all (fun p => decide (p.1 < p.2)) = true
              · rw [c3]
                refine iteF ?_
                -- list(value) != sorted(set(value))
                have hT3 := same_seqT s3 hT2
                refine ⟨_, rfl, a, xs, rfl, .inr hT3, fun L nL => ?_⟩
                have sL := same_new (o := .lst xs) nL
                have eL : (upd H3 L (.lst xs)) L = some (.lst xs) := upd_same
                generalize upd H3 L (.lst xs) = H4 at sL eL ⊢
                have hX4 := (hX2.same s3 _).same sL _
                obtain ⟨ks, ek, hks, ek2⟩ := keys_of hX4
                have lk : ks.length = ws.length := by
                  have := congrArg List.length ek2
                  rw [List.length_map, List.length_map] at this
                  omega
                refine ⟨_, rfl, a, ks, rfl, (by rw [← ek]; exact same_seqT sL hT3), hks, (by omega), fun S M nS k1 k2 => ?_⟩
                have sS := same_new (o := SetTO P w S M) nS
                have kp : ∀ p ∈ M, ∃ z ∈ t, p.2 = [z.1, z.2] := by
                  intro p hp
                  have hm : p.2 ∈ ks.map (·.2) := List.mem_map.mpr ⟨p, k1 p hp, rfl⟩
                  rw [ek2] at hm
                  obtain ⟨z, hz, e⟩ := List.mem_map.mp hm
                  exact ⟨z, hz, e.symm⟩
                refine ⟨S, M, 2, 1000, rfl, upd_same, fun p hp => same_seqT sS (hks p (k1 p hp)), (by decide), fun p hp => ?_, fun M' pA pm nd hl64 pw np => ?_⟩
                · obtain ⟨z, hz, e⟩ := kp p hp
                  have hz' := hR z hz
                  rw [e]
                  refine ⟨rfl, fun m hm => ?_⟩
                  have r1 := hz'.1.1
                  have r2 := hz'.1.2
                  have r3 := hz'.2.1
                  have r4 := hz'.2.2
                  rcases List.mem_cons.mp hm with rfl | hm
                  · omega
                  rw [List.mem_singleton.mp hm]
                  omega
                -- the sorted pairs
                obtain ⟨u, hu⟩ : ∃ u : List (Int × Int), M'.map (·.2) = u.map fun p => [p.1, p.2] := by
                  refine ⟨M'.map fun p => (p.2.getD 0 0, p.2.getD 1 0), ?_⟩
                  rw [List.map_map]
                  refine List.map_congr_left fun p hp => ?_
                  obtain ⟨z, _, e⟩ := kp p (pm.mem_iff.mp hp)
                  show p.2 = [p.2.getD 0 0, p.2.getD 1 0]
                  rw [e]
                  rfl
                have mem_u : ∀ z, z ∈ u ↔ z ∈ t := by
                  intro z
                  have inj : ∀ l : List (Int × Int), z ∈ l ↔ [z.1, z.2] ∈ l.map fun p => [p.1, p.2] := by
                    intro l
                    rw [List.mem_map]
                    constructor
                    · exact fun h => ⟨z, h, rfl⟩
                    · rintro ⟨y, hy, e⟩
                      injection e with e1 e2
                      injection e2 with e2 _
                      have : y = z := Prod.ext e1 e2
                      rw [← this]
                      exact hy
                  rw [inj u, inj t, ← hu, (pm.map (·.2)).mem_iff]
                  constructor
                  · intro h
                    obtain ⟨p, hp, e⟩ := List.mem_map.mp h
                    obtain ⟨y, hy, e2⟩ := kp p hp
                    rw [← e, e2]
                    exact List.mem_map.mpr ⟨y, hy, rfl⟩
                  · intro h
                    rw [← ek2] at h
                    obtain ⟨p, hp, e⟩ := List.mem_map.mp h
                    rw [← e]
                    exact k2 p hp
                have Ru : ∀ z ∈ u, 0 ≤ z.2 ∧ z.2 < 1000 := fun z hz => by
                  have r := (hR z ((mem_u z).mp hz)).2
                  have r1 := r.1
                  have r2 := r.2
                  omega
                have asc_u : u.Pairwise fun a b => cp a < cp b := by
                  have n1 : (u.map fun p => [p.1, p.2]).Nodup := by rw [← hu]; exact nd
                  have n2 : u.Pairwise fun a b => cp a ≤ cp b := by
                    have : (u.map fun p => [p.1, p.2]).Pairwise fun a b => TS.code 1000 a ≤ TS.code 1000 b := by
                      rw [← hu, List.pairwise_map]
                      exact pw
                    rw [List.pairwise_map] at this
                    exact this.imp fun k => by
                      rw [code2, code2] at k
                      exact k
                  have n3 := SWM.nodup_of_map n1
                  unfold List.Nodup at n3
                  refine List.Pairwise.imp_of_mem ?_ (n2.and n3)
                  rintro y z hy hz ⟨k, k'⟩
                  have : cp y ≠ cp z := fun e => k' (cp_inj (Ru y hy) (Ru z hz) e)
                  omega
                have sA := same_new (o := .lst (M'.map fun p => V.ref p.1)) np
                have hU : DpAll K (upd (upd H4 S (SetTO P w S M)) pA (.lst (M'.map fun p => V.ref p.1))) (M'.map fun p => V.ref p.1) (u.map pD) :=
                  (keys_data hu fun p hp => same_seqT sS (hks p (k1 p (pm.mem_iff.mp hp)))).same sA _
                have s5 := ((s3.trans sL).trans sS).trans sA
                refine ⟨.list (t.map pD), .list (u.map pD), .lst (.of (sA _ _ (sS _ _ eL))) (hX2.same s5 _), .lst (.of upd_same) hU, shaped_pairs t, shaped_pairs u, _, rfl, ?_⟩
                rw [eqv_pairs]
                by_cases c4 : t = u
                · rw [decide_eq_true c4]
                  refine iteF ?_
                  have asc_t : t.Pairwise fun a b => cp a < cp b := by rw [c4]; exact asc_u
                  have cc3 : chk3 t = true := by
                    unfold chk3
                    rw [c3, decide_eq_true asc_t]
                    rfl
                  rw [cc3] at q2
                  have sp := hsp' cc3
                  -- len(reached_from(value, 0)) != many + 1
                  refine ⟨_, rfl, .ref a, t, ws.length, rfl, hv2.same s5 _, h6, hR, sp, fun H6 d kvs s6 ed el => ?_⟩
                  refine ⟨d, kvs, rfl, ed, _, rfl, _, _, rfl, rfl, rfl, _, rfl, ?_⟩
                  rw [decide_eq_true (show V.int (kvs.length : Int) = V.int ((ws.length : Int) + 1) by rw [el]; rfl)]
                  refine iteF ?_
                  have s56 := s5.trans s6
                  have hT6 := same_seqT s56 hT2
                  -- the sum
                  refine ⟨_, rfl, a, rfl, ⟨xs, hT6⟩, fun C7 nC7 => lc_tup (K := K) (a := a) (xs := xs) (fun i H' => Same H6 H' ∧ H' C7 = some (.lst ((t.take i).map fun p => V.int (wc ws p.1 p.2)))) ⟨same_new nC7, upd_same⟩ (fun i H' _ p => same_seqT p.1 hT6) ?_ ?_⟩
                  · rintro i y H7 hi ⟨s7, eC7⟩
                    obtain ⟨d', hd', hdv⟩ := hX2.get hi
                    rw [List.getElem?_map] at hd'
                    obtain ⟨p, hp, rfl⟩ := Option.map_eq_some_iff.mp hd'
                    have hpm := List.mem_of_getElem? hp
                    obtain ⟨b, rfl, hS⟩ := p_tup (hdv.same (s56.trans s7) _)
                    have hil := (List.getElem?_eq_some_iff.mp hp).1
                    have hr1 := (hR p hpm).1.1
                    have hr2 := (hR p hpm).2.2
                    have hr3 : p.1 < p.2 := of_decide_eq_true (List.all_eq_true.mp c3 p hpm)
                    refine ⟨b, _, rfl, hS, rfl, _, _, rfl, _, _, rfl, rfl, rfl, ?_⟩
                    refine ⟨_, rfl, _, rfl, _, rfl, _, ws, p.1, p.2, rfl, hx2.same (s56.trans s7) _, g, hr1, hr3, hr2, ?_⟩
                    refine ⟨_, eC7, sizeS (by rw [List.length_map, List.length_take]; omega), same_set s7 nC7, ?_⟩
                    rw [upd_same, take_next' hp, List.map_append]
                    rfl
                  · rintro H7 ⟨s7, eC7⟩
                    rw [take_map_all hlt] at eC7
                    refine ⟨C7, t.map fun p => wc ws p.1 p.2, rfl, .of (by rw [List.map_map]; exact eC7), ?_⟩
                    refine ⟨_, rfl, _, ws, rfl, hx2.same (s56.trans s7) _, g, fun H8 s8 => ?_⟩
                    refine ⟨rfl, ?_⟩
                    have e : decide (V.int ((t.map fun p => wc ws p.1 p.2).sum) = V.int (due ws)) = (true && decide (psum ws t = due ws)) := by
                      rw [Bool.true_and]
                      by_cases c9 : psum ws t = due ws
                      · rw [decide_eq_true c9, decide_eq_true]
                        exact congrArg V.int c9
                      · rw [decide_eq_false c9, decide_eq_false]
                        exact fun z => c9 (V.int.inj z)
                    show Q (.bl (decide (V.int ((t.map fun p => wc ws p.1 p.2).sum) = V.int (due ws)))) H8
                    rw [e]
                    exact q2 H8 ((s56.trans s7).trans s8)
                · rw [decide_eq_false c4]
                  refine iteT ?_
                  have cc3 : chk3 t = false := by
                    unfold chk3
                    rw [c3, Bool.true_and, decide_eq_false_iff_not]
                    intro z
                    refine c4 (asc_uniq z asc_u (fun p hp => ?_) fun p => (mem_u p).symm)
                    exact Ru p ((mem_u p).mpr hp)
                  rw [cc3] at q2
                  exact q2 _ s5
              · rw [Bool.not_eq_true] at c3
                rw [c3]
                refine iteT (iteT ?_)
                have cc3 : chk3 t = false := by
                  unfold chk3
                  rw [c3]
                  rfl
                rw [cc3] at q2
                exact q2 H3 s3
          · rw [Bool.not_eq_true] at cc2
            rw [cc2]
            refine iteT ?_
            have hM : isM ws ds = false := by
              unfold isM
              rw [cc1, cc2]
              rfl
            rw [hM] at q
            exact q H2 (s1.trans s2)
      · rw [Bool.not_eq_true] at c1
        rw [c1]
        refine iteT ?_
        have hM : isM ws ds = false := by
          unfold isM chk1
          rw [c1, Bool.and_false]
          rfl
        rw [hM] at q
        exact q H1 s1
  · have hc : (decide ((ws.length : Int) ≤ (xs.length : Int)) && decide ((xs.length : Int) ≤ (ws.length : Int))) = false := by
      rw [Bool.and_eq_false_iff, decide_eq_false_iff_not, decide_eq_false_iff_not]
      omega
    rw [hc]
    refine iteT (iteT ?_)
    have hM : isM ws ds = false := by
      unfold isM chk1
      rw [decide_eq_false c0]
      rfl
    rw [hM] at q
    exact q H (.refl H)
abbrev sLeast : Stmt := top 20
theorem scLeast : FnScope ["wires", "value"] ["wires", "value"] (defScope sLeast) := ⟨rfl, rfl, rfl, by decide +kernel, rfl, by decide +kernel, by decide +kernel⟩
theorem known_same {H H' : Hp} {v : V} {ws : Ws} {b : Bool} (hn : NotTup K H v → NotTup K H' v) (s : Same H H') (h : KnownV K H v ws b) : KnownV K H' v ws b := by
  rcases h with ⟨h, e⟩ | ⟨ds, h, r⟩
  · exact .inl ⟨hn h, e⟩
  · exact .inr ⟨ds, h.same s _, r⟩
/-- not a tuple, whatever is made besides -/
def NotTupS (K : PySem.W.Frag) (H : Hp) (v : V) : Prop := ∀ H', Same H H' → NotTup K H' v
def KnownS (K : PySem.W.Frag) (H : Hp) (v : V) (ws : Ws) (b : Bool) : Prop := (NotTupS K H v ∧ b = false) ∨
  ∃ ds, Dp K H v (.tuple ds) ∧ (chk1 ws.length ds = true → LeafOk ds) ∧ (chk1 ws.length ds = true → chk2 ws.length ds = true → chk3 (ds.map asP) = true → SpP ws.length (ds.map asP)) ∧ b = isM ws ds
theorem knownS {H H' : Hp} {v : V} {ws : Ws} {b : Bool} (h : KnownS K H v ws b) (s : Same H H') : KnownV K H' v ws b := by
  rcases h with ⟨h, e⟩ | ⟨ds, h, r⟩
  · exact .inl ⟨h H' s, e⟩
  · exact .inr ⟨ds, h.same s _, r⟩
def spLeast (K : PySem.W.Frag) : Sp := fun vs H Q _ => ∃ x v ws b, vs = [x, v] ∧ Dp K H x (wD ws) ∧ Good ws ∧ KnownS K H v ws b ∧ ∀ H', Same H H' → Q (.bl b) H'
theorem ok_least (D : Df K mg "is_least_tree" sLeast ["wires", "value"]) (cN : Cal P w K mg base 3 "need_wires" (spNeed K)) (cI : Cal P w K mg base 5 "is_tree" (spIs K)) : Cal P w K mg base 6 "is_least_tree" (spLeast K) := by
  refine cal_of D scLeast (fun vs H Q E h => ?_) (fun f cdv A outer s H vs Q E hr h => ?_)
  · obtain ⟨x, v, ws, b, rfl, _⟩ := h
    rfl
  obtain ⟨x, v, ws, b, rfl, hx, g, hk, q⟩ := h
  refine ⟨_, pss_cons (ps_expr (pc cN hr (by decide) (pa_cons (pv 0) pa_nil))) (pss_one (ps_ret (pc cI hr (by decide) (pa_cons (pv 0) (pa_cons (pv 1) pa_nil))))), ?_⟩
  refine ⟨_, rfl, x, ws, rfl, hx, g, fun H1 s1 => ?_⟩
  exact ⟨_, rfl, _, rfl, x, v, ws, b, rfl, hx.same s1 _, g, knownS hk s1, fun H2 s2 => q H2 (s1.trans s2)⟩
end
end SW
/-! B9: the law's draws: _law_taken, _law_pick. -/
namespace SW
open PySem PySem.Spec PyProof.Rows L2 SW0 SWM
/-- all but what stands at r is as it was -/
def SameX (r : Addr) (H H' : Hp) : Prop := ∀ b o, b ≠ r → H b = some o → H' b = some o
theorem SameX.refl (r : Addr) (H : Hp) : SameX r H H := fun _ _ _ h => h
theorem SameX.trans {r : Addr} {H H1 H2 : Hp} (a : SameX r H H1) (b : SameX r H1 H2) : SameX r H H2 := fun c o n h => b c o n (a c o n h)
theorem sameX_of {r : Addr} {H H' : Hp} (s : Same H H') : SameX r H H' := fun b o _ h => s b o h
theorem sameX_at {r : Addr} {H : Hp} {o : HO} : SameX r H (upd H r o) := fun b u n h => by
  rw [upd_ne n]
  exact h
/-- the draws' row: the script's list at sc, three numbers -/
structure RowAt (K : PySem.W.Frag) (H : Hp) (r sc : Addr) (ns : List Int) : Prop where
  ex : ∃ (p s t : Int), H r = some (.lst [.ref sc, .int p, .int s, .int t]) ∧ 0 ≤ p ∧ 0 ≤ s ∧ s < 2147483647
  scr : (sc ≠ r ∧ Rd H sc (.lst (ns.map V.int))) ∨ ∀ H', SqL K H' sc (ns.map V.int)
theorem RowAt.same {K : PySem.W.Frag} {H H' : Hp} {r sc : Addr} {ns : List Int} (h : RowAt K H r sc ns) (s : Same H H') : RowAt K H' r sc ns := by
  obtain ⟨p, z, t, e, h2⟩ := h.ex
  refine ⟨⟨p, z, t, s _ _ e, h2⟩, ?_⟩
  rcases h.scr with ⟨n, h1 | ⟨o, h1⟩⟩ | h1
  · exact .inl ⟨n, .inl (s _ _ h1)⟩
  · exact .inl ⟨n, .inr ⟨o, s _ _ h1⟩⟩
  · exact .inr h1
/-- a list of one's own is set -/
theorem row_set {K : PySem.W.Frag} {H0 H : Hp} {r p sc : Addr} {ns : List Int} {o : HO} (h : RowAt K H r sc ns) (h0 : RowAt K H0 r sc ns) (s : SameX r H0 H) (hp : H0 p = none) : RowAt K (upd H p o) r sc ns := by
  obtain ⟨q, z, t, e, h2⟩ := h.ex
  obtain ⟨_, _, _, e0, _⟩ := h0.ex
  refine ⟨⟨q, z, t, by rw [upd_ne (ne_of_none e0 hp)]; exact e, h2⟩, ?_⟩
  rcases h0.scr with ⟨m, k | ⟨ob, k⟩⟩ | k
  · refine .inl ⟨m, .inl ?_⟩
    rw [upd_ne (ne_of_none k hp)]
    exact s _ _ m k
  · refine .inl ⟨m, .inr ⟨ob, ?_⟩⟩
    rw [upd_ne (ne_of_none k hp)]
    exact s _ _ m k
  · exact .inr k
theorem RowAt.lst {K : PySem.W.Frag} {H : Hp} {r sc : Addr} {ns : List Int} (h : RowAt K H r sc ns) : ∃ xs, H r = some (.lst xs) := by
  obtain ⟨p, z, t, e, _⟩ := h.ex
  exact ⟨_, e⟩
theorem RowAt.ne {K : PySem.W.Frag} {H : Hp} {r sc p : Addr} {ns : List Int} (h : RowAt K H r sc ns) (n : H p = none) : p ≠ r := by
  obtain ⟨xs, e⟩ := h.lst
  exact (ne_of_none e n).symm
theorem sameX_T {r : Addr} {H H' : Hp} {xs : List V} (s : SameX r H H') (h : H r = some (.lst xs)) : SameT H H' := fun b ys => by
  refine ⟨fun e => s b _ (fun q => ?_) e, fun o e => s b _ (fun q => ?_) e⟩ <;>
  · rw [q, h] at e
    cases e
section
variable {P : Program} {w : World} {K : PySem.W.Frag} {mg : Str → Option Value} {base : Heap}
abbrev sTaken : Stmt := top 22
abbrev nTaken : List Str := ["_law_row", "_law_many", "_law_found", "_law_cell"]
theorem scTaken : FnScope nTaken ["_law_row", "_law_many"] (defScope sTaken) := ⟨rfl, rfl, rfl, by decide +kernel, rfl, by decide +kernel, by decide +kernel⟩
def spTaken (K : PySem.W.Frag) : Sp := fun vs H Q _ => ∃ r many sc ns, vs = [.ref r, .int many] ∧ RowAt K H r sc ns ∧ 1 ≤ many ∧ many ≤ 1000 ∧ ∀ H' v, RowAt K H' r sc ns → SameX r H H' → 0 ≤ v → v < many → Q (.int v) H'
theorem ok_taken (B : Bi mg) (D : Df K mg "_law_taken" sTaken ["_law_row", "_law_many"]) : Cal P w K mg base 1 "_law_taken" (spTaken K) := by
  refine cal_of D scTaken (fun vs H Q E h => ?_) (fun f cdv A outer s H vs Q E hr h => ?_)
  · obtain ⟨r, many, sc, ns, rfl, _⟩ := h
    rfl
  obtain ⟨r, many, sc, ns, rfl, hrow, m1, m2, q⟩ := h
  refine ⟨_, pss_cons (ps_if (pt_cmpR op_gt (pe_ix ix_list (pv 0) pe_int (fun _ _ => rfl)) pe_int (nomark _))
      (pss_cons (ps_set (i := 2) scTaken.nd rfl (.inl rfl) (pe_op op_mod (pe_callTy call_int1 (by rfl) B.int (by decide +kernel) (pa_cons (pe_ix ix_list (pv 0) pe_int (fun _ _ => rfl)) pa_nil)) (pv 1)))
      (pss_cons (ps_asg (pe_op op_fdiv (pe_ix ix_list (pv 0) pe_int (fun _ _ => rfl)) (pv 1)) (pg_sub (pv 0) pe_int set_list (fun _ => rfl)))
      (pss_one (ps_ret (pv 2))))) pss_nil)
    (pss_cons (ps_asg (pe_op op_add (pe_ix ix_list (pv 0) pe_int (fun _ _ => rfl)) pe_int) (pg_sub (pv 0) pe_int set_list (fun _ => rfl)))
    (pss_cons (ps_if (pt_cmpR op_gt (pe_ix ix_list (pv 0) pe_int (fun _ _ => rfl)) (pe_callB call_len_seq (by rfl) B.len PySem.boot_len (pa_cons (pe_ix ix_list (pv 0) pe_int (fun _ _ => rfl)) pa_nil)) (nomark _))
      (pss_cons (ps_asg (pe_op op_mod (pe_callTy call_int1 (by rfl) B.int (by decide +kernel) (pa_cons (pe_op op_add (pe_op op_mul (pe_ix ix_list (pv 0) pe_int (fun _ _ => rfl)) pe_int) pe_int) pa_nil)) pe_int) (pg_sub (pv 0) pe_int set_list (fun _ => rfl)))
      (pss_one (ps_ret (pe_op op_mod (pe_callTy call_int1 (by rfl) B.int (by decide +kernel) (pa_cons (pe_op op_fdiv (pe_ix ix_list (pv 0) pe_int (fun _ _ => rfl)) pe_int) pa_nil)) (pv 1))))) pss_nil)
    (pss_cons (ps_set (i := 3) scTaken.nd rfl (.inl rfl) (pe_ix ix_list (pe_ix ix_list (pv 0) pe_int (fun _ _ => rfl)) (pe_op op_sub (pe_ix ix_list (pv 0) pe_int (fun _ _ => rfl)) pe_int) (fun _ _ => rfl)))
    (pss_cons (ps_asg (pe_op op_mod (pe_callTy call_int1 (by rfl) B.int (by decide +kernel) (pa_cons (pe_op op_add (pe_op op_add (pe_op op_mul (pe_ix ix_list (pv 0) pe_int (fun _ _ => rfl)) pe_int) (pv 3)) pe_int) pa_nil)) pe_int) (pg_sub (pv 0) pe_int set_list (fun _ => rfl)))
    (pss_cons (ps_if (pt_cmpR op_ge (pv 3) (pe_op op_pow pe_int pe_int) (nomark _)) (pss_one (ps_asg (pe_op op_fdiv (pv 3) (pv 1)) (pg_sub (pv 0) pe_int set_list (fun _ => rfl)))) pss_nil)
    (pss_one (ps_ret (pe_op op_mod (pe_callTy call_int1 (by rfl) B.int (by decide +kernel) (pa_cons (pv 3) pa_nil)) (pv 1))))))))), ?_⟩
  obtain ⟨p, z, t, e0, hp, hz0, hz1⟩ := hrow.ex
  have h1 := hrow.scr
  have at3 : ∀ {a b c d : V}, atI [a, b, c, d] 3 = some d := atI_nat (j := 3) rfl
  have at2 : ∀ {a b c d : V}, atI [a, b, c, d] 2 = some c := atI_nat (j := 2) rfl
  have at1 : ∀ {a b c d : V}, atI [a, b, c, d] 1 = some b := atI_nat (j := 1) rfl
  have rg : ∀ i : Int, 0 ≤ i % many ∧ i % many < many := fun i => ⟨Int.emod_nonneg i (by omega), Int.emod_lt_of_pos i (by omega)⟩
  have big : ∀ i : Int, 0 ≤ i % 2147483647 ∧ i % 2147483647 < 2147483647 := fun i => ⟨Int.emod_nonneg i (by decide), Int.emod_lt_of_pos i (by decide)⟩
  have row : ∀ p' z' t' : Int, 0 ≤ p' → 0 ≤ z' → z' < 2147483647 → RowAt K (upd H r (.lst [.ref sc, .int p', .int z', .int t'])) r sc ns := by
    intro p' z' t' k1 k2 k3
    refine ⟨⟨p', z', t', upd_same, k1, k2, k3⟩, ?_⟩
    rcases h1 with ⟨n, k | ⟨o, k⟩⟩ | k
    · exact .inl ⟨n, .inl (by rw [upd_ne n]; exact k)⟩
    · exact .inl ⟨n, .inr ⟨o, by rw [upd_ne n]; exact k⟩⟩
    · exact .inr k
  have seq : ∀ o, SqL K (upd H r o) sc (ns.map V.int) := by
    intro o
    rcases h1 with ⟨n, k | ⟨o, k⟩⟩ | k
    · exact .inl (.inl (by rw [upd_ne n]; exact k))
    · exact .inl (.inr ⟨o, by rw [upd_ne n]; exact k⟩)
    · exact k _
  have ix : ∀ (H' : Hp) (xs : List V), H' r = some (.lst xs) → SqL K H' r xs := fun _ _ e => .of e
  -- if _law_row[3] > 0
  refine ⟨_, rfl, r, _, 3, _, rfl, rfl, .of e0, at3, _, _, rfl, rfl, _, rfl, ?_⟩
  refine ite2 (fun _ => ?_) (fun _ => ?_)
  · refine ⟨_, rfl, r, _, 3, _, rfl, rfl, .of e0, at3, .inl ⟨t, rfl, _, rfl, _, _, rfl, rfl, (by omega), ?_⟩⟩
    refine ⟨_, rfl, r, _, 3, _, rfl, rfl, .of e0, at3, _, rfl, t, many, rfl, rfl, ⟨by omega, by omega⟩, ?_⟩
    refine ⟨_, rfl, r, _, 3, 3, rfl, rfl, e0, rfl, ?_⟩
    exact ⟨_, rfl, q _ _ (row p z _ hp hz0 hz1) sameX_at (rg t).1 (rg t).2⟩
  -- _law_row[1] = _law_row[1] + 1
  refine ⟨_, rfl, r, _, 1, _, rfl, rfl, .of e0, at1, _, _, rfl, rfl, ?_⟩
  refine ⟨_, rfl, r, _, 1, 1, rfl, rfl, e0, rfl, ?_⟩
  have e1 : (upd H r (.lst [.ref sc, .int (p + 1), .int z, .int t])) r = some (.lst [.ref sc, .int (p + 1), .int z, .int t]) := upd_same
  -- if _law_row[1] > len(_law_row[0])
  refine ⟨_, rfl, r, _, 1, _, rfl, rfl, .of e1, at1, _, rfl, r, _, 0, _, rfl, rfl, .of e1, at0, sc, _, rfl, .inl (seq _), _, _, rfl, rfl, _, rfl, ?_⟩
  refine ite2 (fun _ => ?_) (fun c => ?_)
  · refine ⟨_, rfl, r, _, 2, _, rfl, rfl, .of e1, at2, z, 48271, rfl, rfl, .inl ⟨by omega, by omega⟩, _, _, rfl, rfl, .inl ⟨_, rfl, _, _, rfl, rfl, (by show (0 : Int) < 2147483647; decide), ?_⟩⟩
    refine ⟨_, rfl, r, _, 2, 2, rfl, rfl, e1, rfl, ?_⟩
    rw [upd_upd]
    have e2 : (upd H r (.lst [.ref sc, .int (p + 1), .int ((z * 48271 + 11) % 2147483647), .int t])) r = some (.lst [.ref sc, .int (p + 1), .int ((z * 48271 + 11) % 2147483647), .int t]) := upd_same
    refine ⟨_, rfl, r, _, 2, _, rfl, rfl, .of e2, at2, _, _, rfl, rfl, ⟨by decide, by decide⟩, .inl ⟨_, rfl, _, rfl, _, _, rfl, rfl, (by omega), ?_⟩⟩
    exact q _ _ (row _ _ _ (by omega) (big _).1 (big _).2) sameX_at (rg _).1 (rg _).2
  · have c' : ¬ (((ns.map V.int).length : Nat) : Int) < p + 1 := of_decide_eq_false (Bool.eq_false_iff.mpr c)
    rw [List.length_map] at c'
    have hpl : p.toNat < ns.length := by omega
    have hat : atI (ns.map V.int) (p + 1 - 1) = some (.int ns[p.toNat]) := by
      have : p + 1 - 1 = ((p.toNat : Nat) : Int) := by omega
      rw [this]
      exact atI_nat (by rw [List.getElem?_map, List.getElem?_eq_getElem hpl]; rfl)
    -- _law_cell
    refine ⟨_, rfl, r, _, 0, _, rfl, rfl, .of e1, at0, _, rfl, r, _, 1, _, rfl, rfl, .of e1, at1, _, _, rfl, rfl, sc, _, _, _, rfl, rfl, seq _, hat, ?_⟩
    generalize ns[p.toNat] = cell
    refine ⟨_, rfl, r, _, 2, _, rfl, rfl, .of e1, at2, z, 48271, rfl, rfl, .inl ⟨by omega, by omega⟩, _, rfl, _, _, rfl, rfl, _, _, rfl, rfl, .inl ⟨_, rfl, _, _, rfl, rfl, (by show (0 : Int) < 2147483647; decide), ?_⟩⟩
    refine ⟨_, rfl, r, _, 2, 2, rfl, rfl, e1, rfl, ?_⟩
    rw [upd_upd]
    have e2 : (upd H r (.lst [.ref sc, .int (p + 1), .int ((z * 48271 + cell + 11) % 2147483647), .int t])) r = some (.lst [.ref sc, .int (p + 1), .int ((z * 48271 + cell + 11) % 2147483647), .int t]) := upd_same
    -- if _law_cell >= 10 ** 18
    refine ⟨_, rfl, 10, 18, rfl, rfl, ⟨by decide, by decide, by decide⟩, _, _, rfl, rfl, _, rfl, ?_⟩
    refine ite2 (fun _ => ?_) (fun _ => ?_)
    · refine ⟨_, rfl, _, rfl, _, many, rfl, rfl, ⟨by omega, by omega⟩, ?_⟩
      refine ⟨_, rfl, r, _, 3, 3, rfl, rfl, e2, rfl, ?_⟩
      rw [upd_upd]
      refine ⟨_, rfl, .inl ⟨_, rfl, _, rfl, _, _, rfl, rfl, (by omega), ?_⟩⟩
      exact q _ _ (row _ _ _ (by omega) (big _).1 (big _).2) sameX_at (rg _).1 (rg _).2
    · refine ⟨_, rfl, .inl ⟨_, rfl, _, rfl, _, _, rfl, rfl, (by omega), ?_⟩⟩
      exact q _ _ (row _ _ _ (by omega) (big _).1 (big _).2) sameX_at (rg _).1 (rg _).2
abbrev sPick : Stmt := top 23
theorem scPick : FnScope ["_law_row", "_law_things"] ["_law_row", "_law_things"] (defScope sPick) := ⟨rfl, rfl, rfl, by decide +kernel, rfl, by decide +kernel, by decide +kernel⟩
def spPick (K : PySem.W.Frag) : Sp := fun vs H Q _ => ∃ r t xs sc ns, vs = [.ref r, .ref t] ∧ RowAt K H r sc ns ∧ H t = some (.lst xs) ∧ t ≠ r ∧ 1 ≤ xs.length ∧ xs.length ≤ 1000 ∧ ∀ H' v, RowAt K H' r sc ns → SameX r H H' → v ∈ xs → Q v H'
theorem ok_pick (B : Bi mg) (D : Df K mg "_law_pick" sPick ["_law_row", "_law_things"]) (cT : Cal P w K mg base 1 "_law_taken" (spTaken K)) : Cal P w K mg base 2 "_law_pick" (spPick K) := by
  refine cal_of D scPick (fun vs H Q E h => ?_) (fun f cdv A outer s H vs Q E hr h => ?_)
  · obtain ⟨r, t, xs, sc, ns, rfl, _⟩ := h
    rfl
  obtain ⟨r, t, xs, sc, ns, rfl, hrow, ht, ntr, l1, l2, q⟩ := h
  refine ⟨_, pss_one (ps_ret (pe_ix ix_list (pv 1) (pc cT hr (by decide) (pa_cons (pv 0) (pa_cons (pe_callB call_len_seq (by rfl) B.len PySem.boot_len (pa_cons (pv 1) pa_nil)) pa_nil))) (fun _ _ => rfl))), ?_⟩
  refine ⟨_, rfl, _, rfl, _, rfl, t, xs, rfl, .inl (.of ht), r, _, sc, ns, rfl, hrow, by omega, by omega, fun H' v rw' sx v0 v1 => ?_⟩
  have hv : v.toNat < xs.length := by omega
  refine ⟨t, xs, v, xs[v.toNat], rfl, rfl, .of (sx _ _ ntr ht), ?_, q H' _ rw' sx (List.getElem_mem hv)⟩
  have : v = ((v.toNat : Nat) : Int) := by omega
  exact at_of this (List.getElem?_eq_getElem hv)
end
end SW
/-! B10: _law_wires. -/
namespace SW
open PySem PySem.Spec PyProof.Rows L2 SW0 SWM
theorem sameX_set {r p : Addr} {H H' : Hp} {o : HO} (s : SameX r H H') (h : H p = none) : SameX r H (upd H' p o) := fun b u n e => by
  rw [upd_ne (ne_of_none e h)]
  exact s b u n e
theorem sameX_add {r p : Addr} {H H' : Hp} {o : HO} (s : SameX r H H') (h : H' p = none) : SameX r H (upd H' p o) := s.trans (sameX_of (same_new h))
theorem SameX.free {r p : Addr} {H H' : Hp} (s : SameX r H H') (h : H' p = none) (n : p ≠ r) : H p = none := by
  cases e : H p with
  | none => rfl
  | some o =>
    rw [s p o n e] at h
    cases h
def RowsOk (rows : List (List Int)) : Prop := ∀ (k : Nat) (row : List Int), rows[k]? = some row → row.length = k + 1 ∧ ∀ c ∈ row, 0 ≤ c ∧ c ≤ 999
theorem RowsOk.add {rows : List (List Int)} {row : List Int} (h : RowsOk rows) (l : row.length = rows.length + 1) (b : ∀ c ∈ row, 0 ≤ c ∧ c ≤ 999) : RowsOk (rows ++ [row]) := by
  intro k q e
  by_cases c : k < rows.length
  · rw [List.getElem?_append_left c] at e
    exact h k q e
  · rw [List.getElem?_append_right (by omega)] at e
    have hk : k - rows.length = 0 := by
      cases hz : k - rows.length with
      | zero => rfl
      | succ m =>
        rw [hz] at e
        simp at e
    rw [hk] at e
    have eq : row = q := Option.some.inj e
    subst eq
    exact ⟨by omega, b⟩
def P11 (pl : List (Int × Int)) : Prop := ∀ p ∈ pl, (0 ≤ p.1 ∧ p.1 ≤ 11) ∧ 0 ≤ p.2 ∧ p.2 ≤ 11
theorem abs_le {a b : Int} (h1 : 0 ≤ a ∧ a ≤ 11) (h2 : 0 ≤ b ∧ b ≤ 11) : 0 ≤ (if a - b < 0 then -(a - b) else a - b) ∧ (if a - b < 0 then -(a - b) else a - b) ≤ 11 := by
  split <;> omega
section
variable {P : Program} {w : World} {K : PySem.W.Frag} {mg : Str → Option Value} {base : Heap}
abbrev sLWires : Stmt := top 24
abbrev nLWires : List Str := ["_law_row", "_law_most", "_law_many", "_law_way", "_law_top", "_law_points", "_law_found", "_law_house", "_law_line", "_law_place", "_law_far", "_law_told"]
theorem scLWires : FnScope nLWires ["_law_row", "_law_most"] (defScope sLWires) := ⟨rfl, rfl, rfl, by decide +kernel, rfl, by decide +kernel, by decide +kernel⟩
def spLWires (K : PySem.W.Frag) : Sp := fun vs H Q _ => ∃ r sc ns, vs = [.ref r, .int 6] ∧ RowAt K H r sc ns ∧ ∀ H' v ws, RowAt K H' r sc ns → SameX r H H' → Good ws → Dp K H' v (wD ws) → Q v H'
theorem ok_lwires (B : Bi mg) (D : Df K mg "_law_wires" sLWires ["_law_row", "_law_most"]) (cT : Cal P w K mg base 1 "_law_taken" (spTaken K)) (cP : Cal P w K mg base 2 "_law_pick" (spPick K)) : Cal P w K mg base 3 "_law_wires" (spLWires K) := by
  refine cal_of D scLWires (fun vs H Q E h => ?_) (fun f cdv A outer s H vs Q E hr h => ?_)
  · obtain ⟨r, sc, ns, rfl, _⟩ := h
    rfl
  obtain ⟨r, sc, ns, rfl, row0, q⟩ := h
  refine ⟨_, pss_cons (ps_par (i := 2) (j := 3) rfl scLWires.nd rfl rfl (by decide) rfl rfl (pa_cons (pe_op op_add pe_int (pc cT hr (by decide) (pa_cons (pv 0) (pa_cons (pv 1) pa_nil)))) (pa_cons (pc cT hr (by decide) (pa_cons (pv 0) (pa_cons pe_int pa_nil))) pa_nil)) (by rfl))
    (pss_cons (ps_set (i := 4) scLWires.nd rfl (.inl rfl) (pc cP hr (by decide) (pa_cons (pv 0) (pa_cons (pe_lst (pa_cons pe_int (pa_cons pe_int (pa_cons pe_int (pa_cons pe_int pa_nil))))) pa_nil))))
    (pss_cons (ps_setLc (i := 5) (own := [("_law_told", 11)]) (g := gName 11) (tt := tYes) rfl scLWires.nd rfl rfl (sw_true rfl rfl rfl (by decide +kernel)) (pi_range1 (by rfl) B.range (pa_cons (pe_op op_add (pv 2) pe_int) pa_nil)) (blkOk_by (N := nLWires) (sc := defScope sLWires) (by decide +kernel))
        (fun _ _ _ _ _ => pg_name (i := 11) scLWires.nd rfl (Or.inl rfl)) (fun _ _ _ _ _ => pts_nil)
        (fun _ _ _ _ _ => pe_tup (pa_cons (pc cT hr (by decide) (pa_cons (pv 0) (pa_cons pe_int pa_nil))) (pa_cons (pc cT hr (by decide) (pa_cons (pv 0) (pa_cons pe_int pa_nil))) pa_nil))))
    (pss_cons (ps_set (i := 6) scLWires.nd rfl (.inl rfl) (pe_lst pa_nil))
    (pss_cons (ps_for PassesOwn.never rfl (pi_range1 (by rfl) B.range (pa_cons (pv 2) pa_nil)) (pg_name (i := 7) scLWires.nd rfl (.inl rfl))
      (pss_cons (ps_set (i := 8) scLWires.nd rfl (.inl rfl) (pe_lst pa_nil))
      (pss_cons (ps_for PassesOwn.never rfl (pi_range1 (by rfl) B.range (pa_cons (pe_op op_add (pv 7) pe_int) pa_nil)) (pg_name (i := 9) scLWires.nd rfl (.inl rfl))
        (pss_cons (ps_set (i := 10) scLWires.nd rfl (.inl rfl) (pe_op op_add
            (pe_callB call_abs (by rfl) B.abs (by decide +kernel) (pa_cons (pe_op op_sub (pe_ix ix_tup (pe_ix ix_list (pv 5) (pe_op op_add (pv 7) pe_int) (fun _ _ => rfl)) pe_int (fun _ _ => rfl)) (pe_ix ix_tup (pe_ix ix_list (pv 5) (pv 9) (fun _ _ => rfl)) pe_int (fun _ _ => rfl))) pa_nil))
            (pe_callB call_abs (by rfl) B.abs (by decide +kernel) (pa_cons (pe_op op_sub (pe_ix ix_tup (pe_ix ix_list (pv 5) (pe_op op_add (pv 7) pe_int) (fun _ _ => rfl)) pe_int (fun _ _ => rfl)) (pe_ix ix_tup (pe_ix ix_list (pv 5) (pv 9) (fun _ _ => rfl)) pe_int (fun _ _ => rfl))) pa_nil))))
        (pss_one (ps_expr (pe_bm PySem.F.plainAttrs_list PySem.F.slot_list_append PySem.F.type_list_append mt_append (pv 8) (pa_cons (pe_ifExp (pt_cmpR op_eq (pv 3) pe_int (nomark _)) (pv 10) (pc cT hr (by decide) (pa_cons (pv 0) (pa_cons (pv 4) pa_nil)))) pa_nil))))))
      (pss_one (ps_expr (pe_bm PySem.F.plainAttrs_list PySem.F.slot_list_append PySem.F.type_list_append mt_append (pv 6) (pa_cons (pe_callTy call_tuple_of (by rfl) B.tuple (by decide +kernel) (pa_cons (pv 8) pa_nil)) pa_nil)))))))
    (pss_one (ps_ret (pe_callTy call_tuple_of (by rfl) B.tuple (by decide +kernel) (pa_cons (pv 6) pa_nil)))))))), ?_⟩
  -- many, way
  refine ⟨_, rfl, _, rfl, r, 6, sc, ns, rfl, row0, by decide, by decide, fun H1 m row1 sx1 m0 m1 => ?_⟩
  refine ⟨_, _, rfl, rfl, _, rfl, r, 3, sc, ns, rfl, row1, by decide, by decide, fun H2 way row2 sx2 _ _ => ?_⟩
  obtain ⟨M, hM⟩ : ∃ M : Nat, (1 : Int) + m = (M : Int) := ⟨(1 + m).toNat, by omega⟩
  refine ⟨.int (M : Int), .int way, by rw [← hM], ?_⟩
  have hM1 : 1 ≤ M := by omega
  have hM6 : M ≤ 6 := by omega
  -- top
  refine ⟨_, rfl, (by show 4 ≤ sizeLine; decide), fun T nT => ?_⟩
  have nTr := row2.ne nT
  refine ⟨r, T, _, sc, ns, rfl, row2.same (same_new nT), upd_same, nTr, (by decide), (by decide), fun H4 v row4 sx4 hv => ?_⟩
  obtain ⟨tp, rfl, tp1, tp2⟩ : ∃ tp, v = .int tp ∧ 1 ≤ tp ∧ tp ≤ 1000 := by
    rcases List.mem_cons.mp hv with rfl | hv
    · exact ⟨_, rfl, by decide, by decide⟩
    rcases List.mem_cons.mp hv with rfl | hv
    · exact ⟨_, rfl, by decide, by decide⟩
    rcases List.mem_cons.mp hv with rfl | hv
    · exact ⟨_, rfl, by decide, by decide⟩
    rw [List.mem_singleton.mp hv]
    exact ⟨_, rfl, by decide, by decide⟩
  have sx04 : SameX r H H4 := ((sx1.trans sx2).trans (sameX_of (same_new nT))).trans sx4
  clear hv row1 row2 sx1 sx2 sx4 nT nTr
  -- points
  refine ⟨_, rfl, _, _, rfl, rfl, _, rfl, by omega, by omega, fun C nC => ?_⟩
  have nCr := row4.ne nC
  have nC0 := sx04.free nC nCr
  rw [show ((M : Int) + 1).toNat = M + 1 by omega]
  refine lc_range (lo := 0) (n := M + 1) (fun i H' => ∃ ys pl, SameX r H H' ∧ RowAt K H' r sc ns ∧ H' C = some (.lst ys) ∧ DpAll K H' ys (pl.map pD) ∧ pl.length = i ∧ P11 pl) ⟨[], [], sameX_add sx04 nC, row4.same (same_new nC), upd_same, .nil, rfl, fun _ h => nomatch h⟩ ?_ ?_
  · rintro i H5 hi ⟨ys, pl, sx, row, eC, hC, hl, h11⟩
    refine ⟨rfl, ?_⟩
    refine ⟨_, rfl, r, 12, sc, ns, rfl, row, by decide, by decide, fun H6 a row6 sx6 a0 a1 => ?_⟩
    refine ⟨_, rfl, r, 12, sc, ns, rfl, row6, by decide, by decide, fun H7 b row7 sx7 b0 b1 => ?_⟩
    refine ⟨(by show 2 ≤ sizeLine; decide), fun T nT => ?_⟩
    obtain ⟨xr, er⟩ := row.lst
    have eC7 := sx7 _ _ nCr (sx6 _ _ nCr eC)
    have nTC : C ≠ T := ne_of_none eC7 nT
    have eC8 : (upd H7 T (.tup [.int a, .int b])) C = some (.lst ys) := by rw [upd_ne nTC]; exact eC7
    have sx8 : SameX r H (upd H7 T (.tup [.int a, .int b])) := sameX_add ((sx.trans sx6).trans sx7) nT
    have row8 := row7.same (same_new (o := .tup [.int a, .int b]) nT)
    have st : SameT H5 (upd (upd H7 T (.tup [.int a, .int b])) C (.lst (ys ++ [.ref T]))) := ((sameX_T (sx6.trans sx7) er).trans (sameT_new nT)).trans (sameT_lst eC8)
    have hly : ys.length = i := by rw [hC.len, List.length_map, hl]
    refine ⟨_, eC8, sizeS (by omega), _, pl ++ [(a, b)], sameX_set sx8 nC0, row_set row8 row0 sx8 nC0, upd_same, ?_, ?_, ?_⟩
    · rw [List.map_append]
      refine (hC.sameT st _ (nl_all nl_p _)).app (.one (mk_p (p := (a, b)) (.of ?_)))
      rw [upd_ne nTC.symm, upd_same]
    · rw [List.length_append, hl]
      rfl
    · intro p hp
      rcases List.mem_append.mp hp with hp | hp
      · exact h11 p hp
      · rw [List.mem_singleton.mp hp]
        exact ⟨⟨a0, by simp only; omega⟩, b0, by simp only; omega⟩
  rintro H5 ⟨pts, pl, sx5, row5, eC, hC, hl, h11⟩
  -- found
  refine ⟨Nat.zero_le _, fun F nF => ?_⟩
  have nFr := row5.ne nF
  have nF0 := sx5.free nF nFr
  have nFC : C ≠ F := ne_of_none eC nF
  have stF := sameT_new (o := .lst []) nF
  have lpts : pts.length = M + 1 := by rw [hC.len, List.length_map, hl]
  refine ⟨_, rfl, _, rfl, by omega, by omega, ?_⟩
  rw [show ((M : Int)).toNat = M by omega]
  refine for_range (lo := 0) (n := M) (fun i σ H' => ∃ fs rows s7 s8 s9 s10, σ = [some (.ref r), some (.int 6), some (.int (M : Int)), some (.int way), some (.int tp), some (.ref C), some (.ref F), s7, s8, s9, s10, none] ∧ SameX r H H' ∧ RowAt K H' r sc ns ∧
      H' C = some (.lst pts) ∧ DpAll K H' pts (pl.map pD) ∧ H' F = some (.lst fs) ∧ DpAll K H' fs (rows.map rD) ∧ rows.length = i ∧ RowsOk rows)
    ⟨[], [], none, none, none, none, rfl, sameX_add sx5 nF, row5.same (same_new nF), by rw [upd_ne nFC]; exact eC, hC.sameT stF _ (nl_all nl_p _), upd_same, .nil, rfl, fun k row e => by simp at e⟩ ?_ ?_
  · clear stF nF eC hC sx5 row5 sx04 row4 nC
    rintro i σ H6 hi ⟨fs, rows, s7, s8, s9, s10, rfl, sx, row, eC, hC, eF, hF, hlr, hro⟩
    -- line
    refine ⟨Nat.zero_le _, fun L nL => ?_⟩
    have nLr := row.ne nL
    have nL0 := sx.free nL nLr
    have nLC : C ≠ L := ne_of_none eC nL
    have nLF : F ≠ L := ne_of_none eF nL
    have stL := sameT_new (o := .lst []) nL
    refine ⟨_, rfl, _, _, rfl, rfl, _, rfl, by omega, by omega, ?_⟩
    rw [show ((0 : Int) + (i : Int) + 1).toNat = i + 1 by omega]
    refine for_range (lo := 0) (n := i + 1) (fun j σ H' => ∃ line s9 s10, σ = [some (.ref r), some (.int 6), some (.int (M : Int)), some (.int way), some (.int tp), some (.ref C), some (.ref F), some (.int (0 + (i : Int))), some (.ref L), s9, s10, none] ∧ SameX r H H' ∧ RowAt K H' r sc ns ∧
        H' C = some (.lst pts) ∧ DpAll K H' pts (pl.map pD) ∧ H' F = some (.lst fs) ∧ DpAll K H' fs (rows.map rD) ∧ H' L = some (.lst (line.map V.int)) ∧ line.length = j ∧ ∀ c ∈ line, 0 ≤ c ∧ c ≤ 999)
      ⟨[], s9, s10, rfl, sameX_add sx nL, row.same (same_new nL), by rw [upd_ne nLC]; exact eC, hC.sameT stL _ (nl_all nl_p _), by rw [upd_ne nLF]; exact eF, hF.sameT stL _ (nl_all nl_r _), upd_same, rfl, fun _ h => nomatch h⟩ ?_ ?_
    · clear stL nL eC hC sx row eF hF s7 s8 s9 s10
      rintro j σ H7 hj ⟨line, s9, s10, rfl, sx, row, eC, hC, eF, hF, eL, hll, hlb⟩
      have i1 : i + 1 < pl.length := by omega
      have j1 : j < pl.length := by omega
      obtain ⟨x1, hx1, d1⟩ := hC.at (i := i + 1) (d := pD pl[i + 1]) (by rw [List.getElem?_map, List.getElem?_eq_getElem i1]; rfl)
      obtain ⟨x2, hx2, d2⟩ := hC.at (i := j) (d := pD pl[j]) (by rw [List.getElem?_map, List.getElem?_eq_getElem j1]; rfl)
      obtain ⟨t1, rfl, T1⟩ := p_tup d1
      obtain ⟨t2, rfl, T2⟩ := p_tup d2
      have b1 := h11 _ (List.getElem_mem i1)
      have b2 := h11 _ (List.getElem_mem j1)
      generalize pl[i + 1] = p1 at T1 b1 d1
      generalize pl[j] = p2 at T2 b2 d2
      have a1 : atI pts (0 + (i : Int) + 1) = some (.ref t1) := at_of (by omega) hx1
      have a2 : atI pts (0 + (j : Int)) = some (.ref t2) := at_of (by omega) hx2
      have two1 : ∀ {a b : V}, atI [a, b] 1 = some b := atI_nat (j := 1) rfl
      -- far
      refine ⟨_, rfl, _, rfl, _, _, rfl, rfl, C, pts, _, _, rfl, rfl, .of eC, a1, t1, _, 0, _, rfl, rfl, T1, at0, _, rfl, _, rfl, C, pts, _, _, rfl, rfl, .of eC, a2, t2, _, 0, _, rfl, rfl, T2, at0, _, _, rfl, rfl, _, rfl, ?_⟩
      refine ⟨_, rfl, _, rfl, _, _, rfl, rfl, C, pts, _, _, rfl, rfl, .of eC, a1, t1, _, 1, _, rfl, rfl, T1, two1, _, rfl, _, rfl, C, pts, _, _, rfl, rfl, .of eC, a2, t2, _, 1, _, rfl, rfl, T2, two1, _, _, rfl, rfl, _, rfl, ?_⟩
      refine ⟨_, _, rfl, rfl, ?_⟩
      have f1 := abs_le b1.1 b2.1
      have f2 := abs_le b1.2 b2.2
      generalize (if p1.1 - p2.1 < 0 then -(p1.1 - p2.1) else p1.1 - p2.1) = u1 at f1 ⊢
      generalize (if p1.2 - p2.2 < 0 then -(p1.2 - p2.2) else p1.2 - p2.2) = u2 at f2 ⊢
      -- line.append
      have fin : ∀ (H8 : Hp) (c : Int), SameX r H7 H8 → RowAt K H8 r sc ns → 0 ≤ c → c ≤ 999 → ∃ (line' : List Int) (s9' s10' : Option V), [some (V.ref r), some (.int 6), some (.int (M : Int)), some (.int way), some (.int tp), some (.ref C), some (.ref F), some (.int (0 + (i : Int))), some (.ref L), some (.int (0 + (j : Int))), some (.int (u1 + u2)), none] =
            [some (V.ref r), some (.int 6), some (.int (M : Int)), some (.int way), some (.int tp), some (.ref C), some (.ref F), some (.int (0 + (i : Int))), some (.ref L), s9', s10', none] ∧ SameX r H (upd H8 L (.lst (line.map V.int ++ [.int c]))) ∧ RowAt K (upd H8 L (.lst (line.map V.int ++ [.int c]))) r sc ns ∧
          (upd H8 L (.lst (line.map V.int ++ [.int c]))) C = some (.lst pts) ∧ DpAll K (upd H8 L (.lst (line.map V.int ++ [.int c]))) pts (pl.map pD) ∧ (upd H8 L (.lst (line.map V.int ++ [.int c]))) F = some (.lst fs) ∧ DpAll K (upd H8 L (.lst (line.map V.int ++ [.int c]))) fs (rows.map rD) ∧
          (upd H8 L (.lst (line.map V.int ++ [.int c]))) L = some (.lst (line'.map V.int)) ∧ line'.length = j + 1 ∧ ∀ c ∈ line', 0 ≤ c ∧ c ≤ 999 := by
        intro H8 c sx8 row8 c0 c1
        obtain ⟨xr, er⟩ := row.lst
        have eL8 := sx8 _ _ nLr eL
        have st := (sameX_T sx8 er).trans (sameT_lst (o := .lst (line.map V.int ++ [.int c])) eL8)
        refine ⟨line ++ [c], _, _, rfl, sameX_set (sx.trans sx8) nL0, row_set row8 row0 (sx.trans sx8) nL0, ?_, hC.sameT st _ (nl_all nl_p _), ?_, hF.sameT st _ (nl_all nl_r _), ?_, ?_, ?_⟩
        · rw [upd_ne nLC]
          exact sx8 _ _ nCr eC
        · rw [upd_ne nLF]
          exact sx8 _ _ nFr eF
        · rw [upd_same, List.map_append]
          rfl
        · rw [List.length_append, hll]
          rfl
        · intro z hz
          rcases List.mem_append.mp hz with hz | hz
          · exact hlb z hz
          · rw [List.mem_singleton.mp hz]
            exact ⟨c0, c1⟩
      have hsz : (line.map V.int).length < sizeLine := sizeS (by rw [List.length_map]; omega)
      refine ⟨_, rfl, .inl ⟨rfl, _, .of eL⟩, _, rfl, rfl, _, rfl, ?_⟩
      by_cases cw : way = 0
      · rw [decide_eq_true (show V.int way = V.int 0 by rw [cw])]
        refine iteT ⟨_, rfl, L, _, _, rfl, rfl, eL, hsz, ?_⟩
        exact fin H7 (u1 + u2) (.refl _ _) row (by omega) (by omega)
      · rw [decide_eq_false (show ¬ V.int way = V.int 0 from fun z => cw (V.int.inj z))]
        refine iteF ?_
        refine ⟨_, rfl, _, rfl, r, tp, sc, ns, rfl, row, tp1, tp2, fun H8 c row8 sx8 c0 c1 => ?_⟩
        exact ⟨L, _, _, rfl, rfl, sx8 _ _ nLr eL, hsz, fin H8 c sx8 row8 c0 (by omega)⟩
    · rintro σ H7 ⟨line, s9', s10', rfl, sx7, row7, eC7, hC7, eF7, hF7, eL7, hll, hlb⟩
      -- found.append(tuple(line))
      refine ⟨_, rfl, .inl ⟨rfl, _, .of eF7⟩, _, rfl, L, _, rfl, .inl ⟨.of eL7, fun T nT => ?_⟩⟩
      have nTF : F ≠ T := ne_of_none eF7 nT
      have nTC : C ≠ T := ne_of_none eC7 nT
      have eF8 : (upd H7 T (.tup (line.map V.int))) F = some (.lst fs) := by rw [upd_ne nTF]; exact eF7
      have lfs : fs.length = i := by rw [hF7.len, List.length_map, hlr]
      have st := (sameT_new (o := .tup (line.map V.int)) nT).trans (sameT_lst (o := .lst (fs ++ [.ref T])) eF8)
      have sx8 := sameX_add (o := .tup (line.map V.int)) sx7 nT
      have row8 := row7.same (same_new (o := .tup (line.map V.int)) nT)
      refine ⟨F, fs, _, rfl, rfl, eF8, sizeS (by omega), fs ++ [.ref T], rows ++ [line], _, _, _, _, rfl, sameX_set sx8 nF0, row_set row8 row0 sx8 nF0, ?_, hC7.sameT st _ (nl_all nl_p _), upd_same, ?_, ?_, hro.add (by omega) hlb⟩
      · rw [upd_ne nFC, upd_ne nTC]
        exact eC7
      · rw [List.map_append]
        refine (hF7.sameT st _ (nl_all nl_r _)).app (.one (.tup (.of ?_) (dp_ints line)))
        rw [upd_ne nTF.symm, upd_same]
      · rw [List.length_append, hlr]
        rfl
  · rintro σ H6 ⟨fs, rows, s7, s8, s9, s10, rfl, sx, row, eC, hC, eF, hF, hlr, hro⟩
    refine ⟨_, rfl, F, fs, rfl, .inl ⟨.of eF, fun T nT => ?_⟩⟩
    have sT := same_new (o := .tup fs) nT
    exact q _ _ rows (row.same sT) (sx.trans (sameX_of sT)) ⟨by omega, by omega, hro⟩ (.tup (.of upd_same) (hF.same sT _))
end
end SW
/-! B11: _law_between, _law_grown. -/
namespace SW
open PySem PySem.Spec PyProof.Rows L2 SW0 SWM
theorem flat_ints : ∀ p : List Int, (p.map V.int).all flatV = true
  | [] => rfl
  | x :: p => by
    rw [List.map_cons, List.all_cons, flat_ints p]
    rfl
theorem inV_ints (a : Int) : ∀ p : List Int, inV (.int a) (p.map V.int) = decide (a ∈ p)
  | [] => rfl
  | x :: p => by
    have ih := inV_ints a p
    unfold inV at ih ⊢
    rw [List.map_cons, List.any_cons, ih]
    have e : eqV (V.int x) (V.int a) = decide (x = a) := by
      first | rfl | simp [eqV]
    rw [e]
    by_cases c : x = a
    · subst c
      simp
    · have c' : ¬ a = x := fun z => c z.symm
      simp [c, c']
/-- the parts: lists of one's own, none of them at F -/
inductive PtAll (H : Hp) (F : Addr) : List V → List (List Int) → Prop
  | nil : PtAll H F [] []
  | cons {a : Addr} {vs : List V} {p : List Int} {P : List (List Int)} : a ≠ F → H a = some (.lst (p.map V.int)) → PtAll H F vs P → PtAll H F (.ref a :: vs) (p :: P)
theorem PtAll.len {H : Hp} {F : Addr} : ∀ {vs : List V} {P : List (List Int)}, PtAll H F vs P → vs.length = P.length
  | _, _, .nil => rfl
  | _, _, .cons _ _ h => congrArg (· + 1) h.len
theorem PtAll.get {H : Hp} {F : Addr} : ∀ {vs : List V} {P : List (List Int)} {i : Nat} {v : V}, PtAll H F vs P → vs[i]? = some v → ∃ a p, v = .ref a ∧ P[i]? = some p ∧ a ≠ F ∧ H a = some (.lst (p.map V.int))
  | _, _, _, _, .nil, e => by simp at e
  | _, _, 0, _, .cons n h _, e => by simp at e; subst e; exact ⟨_, _, rfl, rfl, n, h⟩
  | _, _, i + 1, v, .cons _ _ t, e => by
    obtain ⟨a, p, h1, h2, h3⟩ := PtAll.get (i := i) (v := v) t (by simpa using e)
    exact ⟨a, p, h1, by simpa using h2, h3⟩
theorem PtAll.snoc {H : Hp} {F a : Addr} {p : List Int} (n : a ≠ F) (h : H a = some (.lst (p.map V.int))) : ∀ {vs : List V} {P : List (List Int)}, PtAll H F vs P → PtAll H F (vs ++ [.ref a]) (P ++ [p])
  | _, _, .nil => .cons n h .nil
  | _, _, .cons n' h' t => .cons n' h' (PtAll.snoc n h t)
theorem PtAll.same {H H' : Hp} {F : Addr} (s : ∀ a xs, a ≠ F → H a = some (.lst xs) → H' a = some (.lst xs)) : ∀ {vs : List V} {P : List (List Int)}, PtAll H F vs P → PtAll H' F vs P
  | _, _, .nil => .nil
  | _, _, .cons n h t => .cons n (s _ _ n h) (PtAll.same s t)
/-- the wires by the first place -/
def lrow (n : Nat) (a : Int) (j : Nat) : List (Int × Int) := (((places n).take j).filter fun o => decide (a < o)).map fun o => (a, o)
def lfst (n i : Nat) : List (Int × Int) := ((places n).take i).flatMap fun a => lrow n a (n + 1)
theorem lrow_next {n : Nat} {a : Int} {j : Nat} (h : j < n + 1) : lrow n a (j + 1) = if a < (j : Int) then lrow n a j ++ [(a, (j : Int))] else lrow n a j := by
  unfold lrow
  rw [List.take_add_one, places_get n j h, List.filter_append, List.map_append]
  by_cases c : a < (j : Int)
  · rw [if_pos c, show ((some (j : Int)).toList.filter fun o => decide (a < o)) = [(j : Int)] by simp [c]]
    rfl
  · rw [if_neg c, show ((some (j : Int)).toList.filter fun o => decide (a < o)) = [] by simp [c]]
    simp
theorem lfst_next {n i : Nat} (h : i < n + 1) : lfst n (i + 1) = lfst n i ++ lrow n (i : Int) (n + 1) := by
  unfold lfst
  rw [List.take_add_one, places_get n i h, List.flatMap_append]
  simp
theorem lfst_all (n : Nat) : lfst n (n + 1) = pL n := by
  unfold lfst pL
  rw [List.take_of_length_le (by rw [places_len]; exact Nat.le_refl _)]
  congr 1
  funext o
  unfold lrow
  rw [List.take_of_length_le (by rw [places_len]; exact Nat.le_refl _)]
theorem lrow_len {n : Nat} {a : Int} {j : Nat} : (lrow n a j).length ≤ j := by
  unfold lrow
  rw [List.length_map]
  refine Nat.le_trans (List.length_filter_le _ _) ?_
  rw [List.length_take]
  omega
section
/-- the parts that pass a test -/
theorem lc_parts {K : PySem.W.Frag} {pa F D : Addr} {ps : List V} {Pp : List (List Int)} {tt : TT} {σ : L2.St} {H1 : Hp} {Qd : Hp → Prop} (hl : H1 pa = some (.lst ps)) (hp : PtAll H1 F ps Pp) (nD : H1 D = none) (sz : Pp.length ≤ 1000) (test : List Int → Bool) (h11 : σ.length = 12)
    (ht : ∀ (a : Addr) (p : List Int) (H : Hp) (Q : Bool → Hp → Prop), H a = some (.lst (p.map V.int)) → Q (test p) H → tt ((wipe σ [11]).set 11 (some (.ref a))) H Q)
    (hd : ∀ H' ys, Same H1 H' → H' D = some (.lst ys) → PtAll H' F ys (Pp.filter test) → Qd H') :
    ∃ W : Nat → Nat → Hp → Prop, (∃ m, W 0 m (upd H1 D (.lst []))) ∧ ∀ i m H, W i m H →
      ((Itl K pa).stop i H ∧ Qd H) ∨ ((Itl K pa).go i H ∧ ∃ Nx : Hp → Prop, (∀ H', Nx H' → ∃ m', m' < m ∧ W (i + 1) m' H') ∧ ∀ x H', (Itl K pa).yld i H x H' → gName 11 x (wipe σ [11]) H' fun σ2 H2 => wipe σ2 [11] = wipe σ [11] ∧ tt σ2 H2 fun b H3 =>
        if b = true then tVar 11 σ2 H3 fun y H4 => ∃ acc, H4 D = some (.lst acc) ∧ acc.length < sizeLine ∧ Nx (upd H4 D (.lst (acc ++ [y]))) else Nx H3) := by
  have hlen := hp.len
  refine lc_list (K := K) (a := pa) (xs := ps) (fun j H' => ∃ ys, Same H1 H' ∧ H' D = some (.lst ys) ∧ PtAll H1 F ys ((Pp.take j).filter test) ∧ ys.length ≤ j) ⟨[], same_new nD, upd_same, .nil, Nat.le_refl _⟩ (fun j H' _ ⟨_, s, _⟩ => .of (s _ _ hl)) ?_ ?_
  · rintro j x H hj ⟨ys, s, eD, hy, ly⟩
    have hjl := (List.getElem?_eq_some_iff.mp hj).1
    obtain ⟨a, p, rfl, hp1, n, ha⟩ := hp.get hj
    refine ⟨?_, ?_⟩
    · show (((σ.set 11 none).set 11 (some (V.ref a))).set 11 none) = σ.set 11 none
      rw [List.set_set, List.set_set]
    refine ht a p H _ (s _ _ ha) ?_
    have ef : (Pp.take (j + 1)).filter test = (Pp.take j).filter test ++ (if test p = true then [p] else []) := by
      rw [take_next' hp1, List.filter_append]
      by_cases c : test p = true <;> simp [c]
    by_cases c : test p = true
    · rw [c]
      rw [if_pos c] at ef
      refine iteT ⟨.ref a, ?_, ys, eD, sizeS (by omega), ys ++ [.ref a], same_set s nD, upd_same, ?_, ?_⟩
      · rw [List.getElem?_set_self]
        show 11 < (σ.set 11 none).length
        rw [List.length_set, h11]
        decide
      · rw [ef]
        exact PtAll.snoc n ha hy
      · rw [List.length_append, List.length_singleton]
        omega
    · rw [Bool.not_eq_true] at c
      rw [c]
      rw [if_neg (by rw [c]; exact Bool.false_ne_true), List.append_nil] at ef
      exact iteF ⟨ys, s, eD, by rw [ef]; exact hy, by omega⟩
  · rintro H ⟨ys, s, eD, hy, ly⟩
    rw [hlen, List.take_length] at hy
    exact hd H ys s eD (hy.same fun a xs _ e => s _ _ e)
end
section
variable {P : Program} {w : World} {K : PySem.W.Frag} {mg : Str → Option Value} {base : Heap}
abbrev sBetw : Stmt := top 25
theorem scBetw : FnScope ["_law_wires_here", "_law_one", "_law_other"] ["_law_wires_here", "_law_one", "_law_other"] (defScope sBetw) := ⟨rfl, rfl, rfl, by decide +kernel, rfl, by decide +kernel, by decide +kernel⟩
theorem ok_betw (B : Bi mg) (D : Df K mg "_law_between" sBetw ["_law_wires_here", "_law_one", "_law_other"]) : Cal P w K mg base 1 "_law_between" (spCost K) := by
  refine cal_of D scBetw (fun vs H Q E h => ?_) (fun f cdv A outer s H vs Q E hr h => ?_)
  · obtain ⟨x, ws, a, b, rfl, _⟩ := h
    rfl
  obtain ⟨x, ws, a, b, rfl, hx, g, h0, h1, h2, q⟩ := h
  refine ⟨_, pss_one (ps_ret (pe_ix ix_tup (pe_ix ix_tup (pv 0) (pe_op op_sub (pe_callB (call_max2 rfl) (by rfl) B.max (by decide +kernel) (pa_cons (pv 1) (pa_cons (pv 2) pa_nil))) pe_int) (fun _ _ => rfl))
    (pe_callB (call_min2 rfl) (by rfl) B.min (by decide +kernel) (pa_cons (pv 1) (pa_cons (pv 2) pa_nil))) (fun _ _ => rfl))), ?_⟩
  obtain ⟨t, xs, rfl, hT, c, ys, i1, hR, i2⟩ := cost_read hx g h0 h1 h2
  exact ⟨_, rfl, _, rfl, _, rfl, _, _, rfl, _, _, rfl, rfl, _, _, _, _, rfl, rfl, hT, i1, _, rfl, _, rfl, _, _, rfl, _, _, _, _, rfl, rfl, hR, i2, q⟩
abbrev sLG : Stmt := top 26
abbrev nLG : List Str := ["_law_wires_here", "_law_places", "_law_some", "_law_found", "_law_one", "_law_other", "_law_parts", "_law_cost", "_law_mine", "_law_theirs", "_law_place", "_law_part"]
theorem scLG : FnScope nLG ["_law_wires_here", "_law_places"] (defScope sLG) := ⟨rfl, rfl, rfl, by decide +kernel, rfl, by decide +kernel, by decide +kernel⟩
theorem ok_lgrown (B : Bi mg) (D : Df K mg "_law_grown" sLG ["_law_wires_here", "_law_places"]) (cB : Cal P w K mg base 1 "_law_between" (spCost K)) : Cal P w K mg base 2 "_law_grown" (spGrown K) := by
  refine cal_of D scLG (fun vs H Q E h => ?_) (fun f cdv A outer s H vs Q E hr h => ?_)
  · obtain ⟨x, a, ws, rfl, _⟩ := h
    rfl
  obtain ⟨x, a, ws, rfl, hx, g, hA, q⟩ := h
  refine ⟨_, pss_cons (ps_par (i := 2) (j := 3) rfl scLG.nd rfl rfl (by decide) rfl rfl (pa_cons (pe_lst pa_nil) (pa_cons (pe_lst pa_nil) pa_nil)) (by rfl))
    (pss_cons (ps_for PassesOwn.never rfl (pi_list (pv 1)) (pg_name (i := 4) scLG.nd rfl (.inr rfl))
      (pss_one (ps_set (i := 2) scLG.nd rfl (.inl rfl) (pe_op op_cat (pv 2)
        (pe_lc (own := [("_law_other", 5)]) (g := gName 5) rfl scLG.nd (pi_list (pv 1)) (blkOk_by (N := nLG) (sc := defScope sLG) (by decide +kernel)) (fun _ _ _ _ _ => pg_name (i := 5) scLG.nd rfl (Or.inl rfl))
          (fun _ _ _ _ _ => pts_one (pt_cmpR op_lt (pv 4) (pv 5) (nomark _)))
          (fun _ _ _ _ _ => pe_tup (pa_cons (pc cB hr (by decide) (pa_cons (pv 0) (pa_cons (pv 4) (pa_cons (pv 5) pa_nil)))) (pa_cons (pv 4) (pa_cons (pv 5) pa_nil)))))))))
    (pss_cons (ps_setLc (i := 6) (own := [("_law_place", 10)]) (g := gName 10) (tt := tYes) rfl scLG.nd rfl rfl (sw_true rfl rfl rfl (by decide +kernel)) (pi_list (pv 1)) (blkOk_by (N := nLG) (sc := defScope sLG) (by decide +kernel))
        (fun _ _ _ _ _ => pg_name (i := 10) scLG.nd rfl (Or.inl rfl)) (fun _ _ _ _ _ => pts_nil) (fun _ _ _ _ _ => pe_lst (pa_cons (pv 10) pa_nil)))
    (pss_cons (ps_for PassesOwn.never rfl (pi_list (pe_callB (cr_sortT (d := 3) (B := 1000) (by decide)) (by rfl) B.sorted (by decide +kernel) (pa_cons (pv 2) pa_nil))) (pg_tup rfl (pgs_cons (pg_name (i := 7) scLG.nd rfl (.inl rfl)) (pgs_cons (pg_name (i := 4) scLG.nd rfl (.inr rfl)) (pgs_cons (pg_name (i := 5) scLG.nd rfl (.inr rfl)) pgs_nil))))
      (pss_cons (ps_set (i := 8) scLG.nd rfl (.inl rfl) (pe_ix ix_list
        (pe_lc (own := [("_law_part", 11)]) (g := gName 11) (tt := tTest (tOp (rIn K false) (tVar 4) (tVar 11))) rfl scLG.nd (pi_list (pv 6)) (blkOk_by (N := nLG) (sc := defScope sLG) (by decide +kernel)) (fun _ _ _ _ _ => pg_name (i := 11) scLG.nd rfl (Or.inl rfl))
          (fun _ _ _ _ _ => pts_one (pt_cmpR op_in_seq (pv 4) (pv 11) (by rfl))) (fun _ _ _ _ _ => pv 11)) pe_int (fun _ _ => rfl)))
      (pss_one (ps_if (pt_cmpR op_notIn_seq (pv 5) (pv 8) (by rfl))
        (pss_cons (ps_set (i := 9) scLG.nd rfl (.inl rfl) (pe_ix ix_list
          (pe_lc (own := [("_law_part", 11)]) (g := gName 11) (tt := tTest (tOp (rIn K false) (tVar 5) (tVar 11))) rfl scLG.nd (pi_list (pv 6)) (blkOk_by (N := nLG) (sc := defScope sLG) (by decide +kernel)) (fun _ _ _ _ _ => pg_name (i := 11) scLG.nd rfl (Or.inl rfl))
            (fun _ _ _ _ _ => pts_one (pt_cmpR op_in_seq (pv 5) (pv 11) (by rfl))) (fun _ _ _ _ _ => pv 11)) pe_int (fun _ _ => rfl)))
        (pss_cons (ps_set (i := 6) scLG.nd rfl (.inl rfl) (pe_op op_cat
          (pe_lc (own := [("_law_part", 11)]) (g := gName 11) (tt := tAnd (tTest (tOp (rIn K true) (tVar 4) (tVar 11))) (tTest (tOp (rIn K true) (tVar 5) (tVar 11)))) rfl scLG.nd (pi_list (pv 6)) (blkOk_by (N := nLG) (sc := defScope sLG) (by decide +kernel)) (fun _ _ _ _ _ => pg_name (i := 11) scLG.nd rfl (Or.inl rfl))
            (fun _ _ _ _ _ => pts_one (PW.pt (pw_and (pt_cmpR op_notIn_seq (pv 4) (pv 11) (by rfl)) (pw_and1 (pt_cmpR op_notIn_seq (pv 5) (pv 11) (by rfl)))))) (fun _ _ _ _ _ => pv 11))
          (pe_lst (pa_cons (pe_op op_cat (pv 8) (pv 9)) pa_nil))))
        (pss_one (ps_expr (pe_bm PySem.F.plainAttrs_list PySem.F.slot_list_append PySem.F.type_list_append mt_append (pv 3) (pa_cons (pe_tup (pa_cons (pv 7) (pa_cons (pv 4) (pa_cons (pv 5) pa_nil)))) pa_nil)))))) pss_nil))))
    (pss_one (ps_ret (pv 3)))))), ?_⟩
  have h6 := g.hi
  -- some, found
  refine ⟨Nat.zero_le _, fun S0 nS0 => ⟨Nat.zero_le _, fun F nF => ⟨_, _, rfl, ?_⟩⟩⟩
  have nSF : S0 ≠ F := ne_of_none upd_same nF
  have s0 := same_new (o := .lst []) nS0
  have s1 := s0.trans (same_new (o := .lst []) nF)
  have nF0 : H F = none := s0.free nF
  have hA1 := s1.seq hA
  have eS1 : (upd (upd H S0 (.lst [])) F (.lst [])) S0 = some (.lst []) := by rw [upd_ne nSF, upd_same]
  have eF1 : (upd (upd H S0 (.lst [])) F (.lst [])) F = some (.lst []) := upd_same
  generalize upd (upd H S0 (.lst [])) F (.lst []) = H1 at s1 hA1 eS1 eF1 ⊢
  refine ⟨_, rfl, a, rfl, ⟨_, hA1⟩, for_list (K := K) (a := a) (xs := (places ws.length).map V.int) (fun i σ H' => ∃ S xs s4, σ = [some x, some (.ref a), some (.ref S), some (.ref F), s4, none, none, none, none, none, none, none] ∧ Same H1 H' ∧ H' S = some (.lst xs) ∧
      DpAll K H' xs ((lfst ws.length i).map fun p => eD (tri ws p)) ∧ xs.length ≤ 7 * i) ⟨S0, [], none, rfl, .refl _, eS1, .nil, Nat.le_refl _⟩ (fun i σ H' _ ⟨_, _, _, _, sm, _⟩ => sm.seq hA1) ?_ ?_⟩
  · rintro i y σ H2 hi ⟨S, xs, s4, rfl, sm, eS, hS, lS⟩
    obtain ⟨hi', rfl⟩ := places_at hi
    have hA2 := sm.seq hA1
    refine ⟨_, rfl, _, rfl, a, rfl, ⟨_, hA2⟩, fun C nC => lc_list (K := K) (a := a) (xs := (places ws.length).map V.int) (fun j H' => ∃ ys, Same H2 H' ∧ H' C = some (.lst ys) ∧ DpAll K H' ys ((lrow ws.length (i : Int) j).map fun p => eD (tri ws p)))
      ⟨[], same_new nC, upd_same, .nil⟩ (fun j H' _ ⟨_, s2, _⟩ => s2.seq hA2) ?_ ?_⟩
    · rintro j y H3 hj ⟨ys, s2, eC, hC⟩
      obtain ⟨hj', rfl⟩ := places_at hj
      refine ⟨rfl, ?_⟩
      refine ⟨_, rfl, _, rfl, _, _, rfl, rfl, _, rfl, ?_⟩
      refine ite2 (fun c => ?_) (fun c => ?_)
      · have c' : (i : Int) < (j : Int) := of_decide_eq_true c
        refine ⟨_, rfl, _, rfl, _, rfl, x, ws, (i : Int), (j : Int), rfl, (hx.same ((s1.trans sm).trans s2) _), g, by omega, c', by omega, ?_⟩
        refine ⟨_, rfl, _, rfl, (by show 3 ≤ sizeLine; decide), fun T nT => ?_⟩
        have nTC : C ≠ T := ne_of_none eC nT
        have eC' : (upd H3 T (.tup [.int (wc ws (i : Int) (j : Int)), .int (i : Int), .int (j : Int)])) C = some (.lst ys) := by
          rw [upd_ne nTC]
          exact eC
        have hlen : ys.length = (lrow ws.length (i : Int) j).length := by rw [hC.len, List.length_map]
        have hle := lrow_len (n := ws.length) (a := (i : Int)) (j := j)
        refine ⟨_, eC', sizeS (by omega), _, same_set (same_add s2 nT) nC, upd_same, ?_⟩
        rw [lrow_next hj', if_pos c', List.map_append]
        have st : SameT H3 (upd (upd H3 T (.tup [.int (wc ws (i : Int) (j : Int)), .int (i : Int), .int (j : Int)])) C (.lst (ys ++ [.ref T]))) := (sameT_new nT).trans (sameT_lst eC')
        refine (hC.sameT st _ (nl_all (fun p => nl_e _) _)).app (.one ?_)
        refine mk_e (e := tri ws ((i : Int), (j : Int))) (.of ?_)
        rw [upd_ne nTC.symm, upd_same]
        rfl
      · have c' : ¬ (i : Int) < (j : Int) := of_decide_eq_false (Bool.eq_false_iff.mpr c)
        refine ⟨ys, s2, eC, ?_⟩
        rw [lrow_next hj', if_neg c']
        exact hC
    · rintro H3 ⟨ys, s2, eC, hC⟩
      rw [len_places] at hC
      have eS2 := s2 _ _ eS
      have hlen : ys.length = (lrow ws.length (i : Int) (ws.length + 1)).length := by rw [hC.len, List.length_map]
      have hle := lrow_len (n := ws.length) (a := (i : Int)) (j := ws.length + 1)
      refine ⟨S, C, xs, ys, rfl, rfl, eS2, eC, Nat.le_of_lt (sizeS (by omega)), fun R nR => ?_⟩
      refine ⟨R, xs ++ ys, _, rfl, same_add (sm.trans s2) nR, upd_same, ?_, ?_⟩
      · rw [lfst_next hi', List.map_append]
        exact ((hS.same s2 _).same (same_new nR) _).app (hC.same (same_new nR) _)
      · rw [List.length_append]
        omega
  rintro σ H2 ⟨S, xs0, s4, rfl, sm2, eS, hS, lS⟩
  rw [len_places, lfst_all] at hS
  have hS' : DpAll K H2 xs0 (((pL ws.length).map (tri ws)).map eD) := by
    rw [List.map_map]
    exact hS
  have pmL : ((pL ws.length).map (tri ws)).Perm ((pP ws.length).map (tri ws)) := (pL_perm h6).map _
  have eF2 := sm2 _ _ eF1
  have s12 := s1.trans sm2
  have hA2 := s12.seq hA
  clear hS s0 hA1 eS1 eF1 s1 lS
  -- parts
  refine ⟨_, rfl, a, rfl, ⟨_, hA2⟩, fun Pa nPa => lc_list (K := K) (a := a) (xs := (places ws.length).map V.int) (fun j H' => ∃ ps, Same H2 H' ∧ H' Pa = some (.lst ps) ∧ PtAll (upd H' Pa (.dK [])) F ps (((places ws.length).take j).map fun z => [z]) ∧ ps.length ≤ j)
    ⟨[], same_new nPa, upd_same, .nil, Nat.le_refl _⟩ (fun j H' _ ⟨_, s2, _⟩ => s2.seq hA2) ?_ ?_⟩
  · rintro j y H3 hj ⟨ps, s3, eP, hP, lP⟩
    obtain ⟨hj', rfl⟩ := places_at hj
    refine ⟨rfl, ?_⟩
    refine ⟨_, rfl, (by show 1 ≤ sizeLine; decide), fun T nT => ?_⟩
    have nTP : Pa ≠ T := ne_of_none eP nT
    have nTF : F ≠ T := ne_of_none (s3 _ _ eF2) nT
    refine ⟨ps, by rw [upd_ne nTP]; exact eP, sizeS (by omega), ps ++ [.ref T], same_set (same_add s3 nT) nPa, upd_same, ?_, ?_⟩
    · rw [take_next' (places_get ws.length j hj'), List.map_append]
      refine PtAll.snoc nTF.symm ?_ (hP.same fun b zs nb e => ?_)
      · rw [upd_upd, upd_ne nTP.symm, upd_same]
        rfl
      · rw [upd_upd]
        by_cases c : b = Pa
        · rw [c, upd_same] at e ⊢
          exact e
        · rw [upd_ne c] at e ⊢
          rw [upd_ne (ne_of_none e nT)]
          exact e
    · rw [List.length_append, List.length_singleton]
      omega
  rintro H3 ⟨ps0, s3, eP, hP, lP⟩
  rw [len_places, List.take_of_length_le (by rw [places_len]; exact Nat.le_refl _)] at hP
  have hP0 : PtAll H3 F ps0 ((places ws.length).map fun z => [z]) := hP.same fun b zs _ e => by
    by_cases c : b = Pa
    · rw [c, upd_same] at e
      cases e
    · rw [upd_ne c] at e
      exact e
  have nPaF : Pa ≠ F := (ne_of_none eF2 nPa).symm
  have hS3 := hS'.same s3 _
  have s13 := s12.trans s3
  have eF3 := s3 _ _ eF2
  have eS3 := s3 _ _ eS
  clear hS' hP hA2 eF2 eS s12 sm2 lP
  -- the loop
  obtain ⟨k1, k2⟩ := e_ok g hS3 pmL
  refine ⟨_, rfl, S, xs0, rfl, .of eS3, k1, k2, fun xs p pm pw np => ?_⟩
  have hX4 : DpAll K (upd H3 p (.lst xs)) xs ((se ws).map eD) := (sorted_e g hS3 pmL pm pw).same (same_new np) _
  have npF : F ≠ p := ne_of_none eF3 np
  have s34 := same_new (o := .lst xs) np
  have hP4 := hP0.same (H' := upd H3 p (.lst xs)) fun b zs _ e => s34 _ _ e
  refine ⟨p, rfl, ⟨xs, .of upd_same⟩, for_list (K := K) (a := p) (xs := xs) (fun i σ H' => ∃ m Pp f ys ps pa s4 s5 s7 s8 s9, σ = [some x, some (.ref a), some (.ref S), some (.ref F), s4, s5, some (.ref pa), s7, s8, s9, none, none] ∧ Same H H' ∧ H' F = some (.lst ys) ∧ DpAll K H' ys (f.map eD) ∧
      H' p = some (.lst xs) ∧ DpAll K H' xs ((se ws).map eD) ∧ H' pa = some (.lst ps) ∧ pa ≠ F ∧ PtAll H' F ps Pp ∧ Ok ws.length m ∧ Rl ws.length m Pp ∧ f ++ (run m ((se ws).drop i)).2 = grownM ws ∧ f.length ≤ i ∧ Pp.length ≤ 7 + i ∧ ∀ q ∈ Pp, q.length ≤ 2 ^ i)
    ⟨places ws.length, (places ws.length).map (fun z => [z]), [], [], ps0, Pa, _, _, _, _, _, rfl, s13.trans s34, s34 _ _ eF3, .nil, upd_same, hX4, s34 _ _ eP, ?_, hP4, ok_places _, rl_start _, rfl, Nat.le_refl _, ?_, ?_⟩ (fun i σ H' _ ⟨_, _, _, _, _, _, _, _, _, _, _, _, _, _, _, e, _⟩ => .of e) ?_ ?_⟩
  · exact nPaF
  · rw [List.length_map, places_len]
    omega
  · intro q hq
    obtain ⟨z, _, rfl⟩ := List.mem_map.mp hq
    exact Nat.le_refl _
  · rintro i y σ H4 hi ⟨m, Pp, f, ys, ps, pa, s4, s5, s7, s8, s9, rfl, sm, eF, hY, eX, hX, eP, nPF, hP, o, rl, hrun, lf, lP, bP⟩
    obtain ⟨d, hd, hv⟩ := hX.get hi
    rw [List.getElem?_map] at hd
    obtain ⟨e, he, rfl⟩ := Option.map_eq_some_iff.mp hd
    have hem := mem_se g (List.mem_of_getElem? he)
    have hi21 : i < 21 := by
      have h1 := (List.getElem?_eq_some_iff.mp he).1
      have h2 := se_len g
      omega
    have Ra : R ws.length e.2.1 := ⟨hem.1, by omega⟩
    have Rb : R ws.length e.2.2 := ⟨by omega, hem.2.2.1⟩
    obtain ⟨t, rfl, hT⟩ := e_tup hv
    have hdrop : (se ws).drop i = e :: (se ws).drop (i + 1) := List.drop_eq_getElem?_toList_append.trans (by rw [he]; rfl)
    rw [hdrop] at hrun
    refine ⟨t, _, rfl, hT, rfl, _, _, rfl, _, _, rfl, _, _, rfl, rfl, ?_⟩
    -- mine
    refine ⟨_, rfl, pa, rfl, ⟨ps, .of eP⟩, fun C nC => lc_parts eP hP nC (by omega) (fun q => decide (e.2.1 ∈ q)) rfl (fun b q H' Q' eb hq => ⟨_, rfl, _, rfl, b, _, rfl, .inl (.of eb), rfl, flat_ints q, _, rfl, by rw [inV_ints]; exact hq⟩) fun H5 zs s5' eC hZ => ?_⟩
    obtain ⟨p1, rest1, ef1, hp1, ha1⟩ := part_of rl Ra
    rw [ef1] at hZ
    cases hZ with
    | @cons b1 vs1 _ _ nb1 eb1 hZ1 =>
    refine ⟨C, _, 0, .ref b1, rfl, rfl, .of eC, at0, ?_⟩
    have sm5 := sm.trans s5'
    have eF5 := s5' _ _ eF
    have hY5 := hY.same s5' _
    have eX5 := s5' _ _ eX
    have hX5 := hX.same s5' _
    have eP5 := s5' _ _ eP
    have hP5 := hP.same (H' := H5) fun b zs _ e => s5' _ _ e
    clear hZ1 eC sm eF hY eX hX eP hP nC hT hv
    -- if other not in mine
    refine ⟨_, rfl, _, rfl, b1, _, rfl, .inl (.of eb1), rfl, flat_ints p1, _, rfl, ?_⟩
    rw [inV_ints]
    have sp := same_part rl Rb hp1 ha1
    by_cases c : e.2.2 ∈ p1
    · rw [decide_eq_true c]
      refine iteF ?_
      rw [run_skip (sp.mp c)] at hrun
      refine ⟨m, Pp, f, ys, ps, pa, _, _, _, _, _, rfl, sm5, eF5, hY5, eX5, hX5, eP5, nPF, hP5, o, rl, hrun, by omega, by omega, fun q hq => ?_⟩
      exact Nat.le_trans (bP q hq) (Nat.pow_le_pow_right (by decide) (Nat.le_succ _))
    · rw [decide_eq_false c]
      refine iteT ?_
      rw [run_take (fun z => c (sp.mpr z))] at hrun
      -- theirs
      refine ⟨_, rfl, pa, rfl, ⟨ps, .of eP5⟩, fun C2 nC2 => lc_parts eP5 hP5 nC2 (by omega) (fun q => decide (e.2.2 ∈ q)) rfl (fun b q H' Q' eb hq => ⟨_, rfl, _, rfl, b, _, rfl, .inl (.of eb), rfl, flat_ints q, _, rfl, by rw [inV_ints]; exact hq⟩) fun H6 zs s6 eC2 hZ => ?_⟩
      obtain ⟨p2, rest2, ef2, hp2, ha2⟩ := part_of rl Rb
      rw [ef2] at hZ
      cases hZ with
      | @cons b2 vs2 _ _ nb2 eb2 hZ2 =>
      refine ⟨C2, _, 0, .ref b2, rfl, rfl, .of eC2, at0, ?_⟩
      have eb1' := s6 _ _ eb1
      have sm6 := sm5.trans s6
      have eF6 := s6 _ _ eF5
      have hY6 := hY5.same s6 _
      have eX6 := s6 _ _ eX5
      have hX6 := hX5.same s6 _
      have eP6 := s6 _ _ eP5
      have hP6 := hP5.same (H' := H6) fun b zs _ e => s6 _ _ e
      clear hZ2 eC2 sm5 eF5 hY5 eX5 hX5 eP5 hP5 nC2 eb1
      -- parts = .. + [mine + theirs]
      refine ⟨_, rfl, pa, rfl, ⟨ps, .of eP6⟩, fun C3 nC3 => lc_parts eP6 hP6 nC3 (by omega) (fun q => decide (e.2.1 ∉ q) && decide (e.2.2 ∉ q)) rfl (fun b q H' Q' eb hq => ?_) fun H7 zs s7' eC3 hZ => ?_⟩
      · refine ⟨_, rfl, _, rfl, b, _, rfl, .inl (.of eb), rfl, flat_ints q, _, rfl, ?_⟩
        rw [inV_ints]
        by_cases c1 : e.2.1 ∈ q
        · rw [decide_eq_false (fun z => z c1)] at hq
          rw [decide_eq_true c1]
          exact iteF hq
        · rw [decide_eq_true c1] at hq
          rw [decide_eq_false c1]
          refine iteT ⟨_, rfl, _, rfl, b, _, rfl, .inl (.of eb), rfl, flat_ints q, _, rfl, ?_⟩
          rw [inV_ints]
          by_cases c2 : e.2.2 ∈ q
          · rw [decide_eq_false (fun z => z c2)] at hq
            rw [decide_eq_true c2]
            exact hq
          · rw [decide_eq_true c2] at hq
            rw [decide_eq_false c2]
            exact hq
      have eb1n := s7' _ _ eb1'
      have eb2n := s7' _ _ eb2
      have l1 := bP p1 hp1
      have l2 := bP p2 hp2
      have l3 : (2 : Nat) ^ i ≤ 2 ^ 20 := Nat.pow_le_pow_right (by decide) (by omega)
      have e20 : (2 : Nat) ^ 20 = 1048576 := by decide
      refine ⟨_, rfl, _, rfl, b1, b2, _, _, rfl, rfl, eb1n, eb2n, Nat.le_of_lt (sizeS (by rw [List.length_map, List.length_map]; omega)), fun M1 nM1 => ?_⟩
      refine ⟨(by show 1 ≤ sizeLine; decide), fun M2 nM2 => ?_⟩
      have g1 := same_new (o := .lst (p1.map V.int ++ p2.map V.int)) nM1
      have g2 := same_new (o := .lst [.ref M1]) nM2
      have eM1 := g2 M1 _ upd_same
      have eM2 : (upd (upd H7 M1 (.lst (p1.map V.int ++ p2.map V.int))) M2 (.lst [.ref M1])) M2 = some (.lst [.ref M1]) := upd_same
      have nM1F : M1 ≠ F := (ne_of_none (s7' _ _ eF6) nM1).symm
      have g12 := (s7'.trans g1).trans g2
      have eC3n := g2 _ _ (g1 _ _ eC3)
      have hZn := hZ.same (H' := upd (upd H7 M1 (.lst (p1.map V.int ++ p2.map V.int))) M2 (.lst [.ref M1])) fun b zs _ e => g2 _ _ (g1 _ _ e)
      generalize upd (upd H7 M1 (.lst (p1.map V.int ++ p2.map V.int))) M2 (.lst [.ref M1]) = H8 at g12 eM1 eM2 eC3n hZn ⊢
      have lz : zs.length ≤ 7 + i := by
        rw [hZn.len]
        exact Nat.le_trans (List.length_filter_le _ _) lP
      refine ⟨C3, M2, zs, [.ref M1], rfl, rfl, eC3n, eM2, Nat.le_of_lt (sizeS (by rw [List.length_singleton]; omega)), fun N nN => ?_⟩
      have g3 := same_new (o := .lst (zs ++ [.ref M1])) nN
      have sm9 := (sm6.trans g12).trans g3
      have eF9 := g3 _ _ (g12 _ _ eF6)
      have hY9 := (hY6.same g12 _).same g3 _
      have eX9 := g3 _ _ (g12 _ _ eX6)
      have hX9 := (hX6.same g12 _).same g3 _
      have nNF : N ≠ F := (ne_of_none (g12 _ _ eF6) nN).symm
      have eN9 : (upd H8 N (.lst (zs ++ [.ref M1]))) N = some (.lst (zs ++ [.ref M1])) := upd_same
      have hZ9 : PtAll (upd H8 N (.lst (zs ++ [.ref M1]))) F (zs ++ [.ref M1]) ((Pp.filter fun q => decide (e.2.1 ∉ q) && decide (e.2.2 ∉ q)) ++ [p1 ++ p2]) := by
        refine PtAll.snoc nM1F ?_ (hZn.same fun b zs _ e => g3 _ _ e)
        rw [g3 _ _ eM1, List.map_append]
      generalize upd H8 N (.lst (zs ++ [.ref M1])) = H9 at sm9 eF9 hY9 eX9 hX9 eN9 hZ9 ⊢
      -- found.append
      refine ⟨_, rfl, .inl ⟨rfl, _, .of eF9⟩, _, rfl, _, rfl, _, rfl, (by show 3 ≤ sizeLine; decide), fun T nT => ?_⟩
      have nTF : F ≠ T := ne_of_none eF9 nT
      have nTN : N ≠ T := ne_of_none eN9 nT
      have nTp : p ≠ T := ne_of_none eX9 nT
      have eF10 : (upd H9 T (.tup [.int e.1, .int e.2.1, .int e.2.2])) F = some (.lst ys) := by rw [upd_ne nTF]; exact eF9
      have lY : ys.length = f.length := by rw [hY9.len, List.length_map]
      have st : SameT H9 (upd (upd H9 T (.tup [.int e.1, .int e.2.1, .int e.2.2])) F (.lst (ys ++ [.ref T]))) := (sameT_new nT).trans (sameT_lst eF10)
      refine ⟨F, ys, _, rfl, rfl, eF10, sizeS (by omega), ?_⟩
      refine ⟨rel m e.2.1 e.2.2, _, f ++ [e], ys ++ [.ref T], zs ++ [.ref M1], N, _, _, _, _, _, rfl, same_set (same_add sm9 nT) nF0, upd_same, ?_, ?_, hX9.sameT st _ (nl_all nl_e _), ?_, nNF, hZ9.same fun b zs nb e => ?_, ok_rel o Ra Rb, rl_join o rl Ra Rb hp1 ha1 hp2 ha2, ?_, ?_, ?_, ?_⟩
      · rw [List.map_append]
        refine (hY9.sameT st _ (nl_all nl_e _)).app (.one (mk_e (.of ?_)))
        rw [upd_ne nTF.symm, upd_same]
      · rw [upd_ne npF.symm, upd_ne nTp]
        exact eX9
      · rw [upd_ne nNF, upd_ne nTN]
        exact eN9
      · rw [upd_ne nb, upd_ne (ne_of_none e nT)]
        exact e
      · rw [← hrun, List.append_assoc]
        rfl
      · rw [List.length_append, List.length_singleton]
        omega
      · rw [List.length_append, List.length_singleton]
        have := List.length_filter_le (fun q => decide (e.2.1 ∉ q) && decide (e.2.2 ∉ q)) Pp
        omega
      · intro q hq
        rw [Nat.pow_succ]
        rcases List.mem_append.mp hq with hq | hq
        · have := bP q (List.mem_filter.mp hq).1
          omega
        · rw [List.mem_singleton.mp hq, List.length_append]
          omega
  · rintro σ H4 ⟨m, Pp, f, ys, ps, pa, s4, s5, s7, s8, s9, rfl, sm, eF, hY, eX, hX, eP, nPF, hP, o, rl, hrun, lf, lP, bP⟩
    have hlen : xs.length = (se ws).length := by rw [hX.len, List.length_map]
    rw [hlen, List.drop_length, run_nil, List.append_nil] at hrun
    rw [hrun] at hY
    exact ⟨_, rfl, q H4 F ys sm nF0 eF hY⟩
end
end SW
/-! B12: _law_alike. -/
namespace SW
open PySem PySem.Spec PyProof.Rows L2 SW0 SWM
/-- a value: data, or an empty dict -/
def Fd (K : PySem.W.Frag) (H : Hp) (x : V) (d : PyData) : Prop := Dp K H x d ∨ ∃ a, x = .ref a ∧ H a = some (.dK []) ∧ d = .dict []
theorem Fd.same {K : PySem.W.Frag} {H H' : Hp} {x : V} {d : PyData} (h : Fd K H x d) (s : Same H H') : Fd K H' x d := by
  rcases h with h | ⟨a, e, h, r⟩
  · exact .inl (h.same s _)
  · exact .inr ⟨a, e, s _ _ h, r⟩
def tn : PyData → String
  | .none => "NoneType"
  | .bool _ => "bool"
  | .int _ => "int"
  | .str _ => "str"
  | .list _ => "list"
  | .tuple _ => "tuple"
  | .dict _ => "dict"
def isT : PyData → Bool
  | .tuple _ => true
  | _ => false
def isL : PyData → Bool
  | .list _ => true
  | _ => false
def isI : PyData → Bool
  | .int _ => true
  | .bool _ => true
  | _ => false
def isB : PyData → Bool
  | .bool _ => true
  | _ => false
theorem Fd.ty {K : PySem.W.Frag} {H : Hp} {x : V} {d : PyData} (h : Fd K H x d) : TyX K H x (.type (tn d)) := by
  rcases h with h | ⟨a, rfl, h, rfl⟩
  · cases h with
    | non => exact .base .non
    | bl b => exact .base (.bl b)
    | int i => exact .base (.int i)
    | str x => exact .base (.str x)
    | lst hs _ => exact ty_lst hs
    | tup hs _ => exact ty_tup hs
  · exact .base (.dK h)
theorem kT {K : PySem.W.Frag} : ∀ d : PyData, PySem.W.kitOne K (.type (tn d)) (.type "tuple") = some (isT d)
  | .none => kit_ty (a := "NoneType") (b := "tuple") (r := false) (by decide +kernel)
  | .bool _ => kit_ty (a := "bool") (b := "tuple") (r := false) (by decide +kernel)
  | .int _ => kit_ty (a := "int") (b := "tuple") (r := false) (by decide +kernel)
  | .str _ => kit_ty (a := "str") (b := "tuple") (r := false) (by decide +kernel)
  | .list _ => kit_ty (a := "list") (b := "tuple") (r := false) (by decide +kernel)
  | .tuple _ => kit_ty (a := "tuple") (b := "tuple") (r := true) (by decide +kernel)
  | .dict _ => kit_ty (a := "dict") (b := "tuple") (r := false) (by decide +kernel)
theorem kL {K : PySem.W.Frag} : ∀ d : PyData, PySem.W.kitOne K (.type (tn d)) (.type "list") = some (isL d)
  | .none => kit_ty (a := "NoneType") (b := "list") (r := false) (by decide +kernel)
  | .bool _ => kit_ty (a := "bool") (b := "list") (r := false) (by decide +kernel)
  | .int _ => kit_ty (a := "int") (b := "list") (r := false) (by decide +kernel)
  | .str _ => kit_ty (a := "str") (b := "list") (r := false) (by decide +kernel)
  | .list _ => kit_ty (a := "list") (b := "list") (r := true) (by decide +kernel)
  | .tuple _ => kit_ty (a := "tuple") (b := "list") (r := false) (by decide +kernel)
  | .dict _ => kit_ty (a := "dict") (b := "list") (r := false) (by decide +kernel)
theorem kI {K : PySem.W.Frag} : ∀ d : PyData, PySem.W.kitOne K (.type (tn d)) (.type "int") = some (isI d)
  | .none => kit_ty (a := "NoneType") (b := "int") (r := false) (by decide +kernel)
  | .bool _ => kit_ty (a := "bool") (b := "int") (r := true) (by decide +kernel)
  | .int _ => kit_ty (a := "int") (b := "int") (r := true) (by decide +kernel)
  | .str _ => kit_ty (a := "str") (b := "int") (r := false) (by decide +kernel)
  | .list _ => kit_ty (a := "list") (b := "int") (r := false) (by decide +kernel)
  | .tuple _ => kit_ty (a := "tuple") (b := "int") (r := false) (by decide +kernel)
  | .dict _ => kit_ty (a := "dict") (b := "int") (r := false) (by decide +kernel)
theorem kB {K : PySem.W.Frag} : ∀ d : PyData, PySem.W.kitOne K (.type (tn d)) (.type "bool") = some (isB d)
  | .none => kit_ty (a := "NoneType") (b := "bool") (r := false) (by decide +kernel)
  | .bool _ => kit_ty (a := "bool") (b := "bool") (r := true) (by decide +kernel)
  | .int _ => kit_ty (a := "int") (b := "bool") (r := false) (by decide +kernel)
  | .str _ => kit_ty (a := "str") (b := "bool") (r := false) (by decide +kernel)
  | .list _ => kit_ty (a := "list") (b := "bool") (r := false) (by decide +kernel)
  | .tuple _ => kit_ty (a := "tuple") (b := "bool") (r := false) (by decide +kernel)
  | .dict _ => kit_ty (a := "dict") (b := "bool") (r := false) (by decide +kernel)
theorem kTL {K : PySem.W.Frag} (d : PyData) : PySem.W.kitAny K (.type (tn d)) [.type "tuple", .type "list"] = some (isT d || isL d) := by
  refine kitAny_cons (kT d) (fun h => ?_) (fun h => by rw [h]; rfl)
  rw [h, Bool.false_or]
  refine kitAny_cons (kL d) (fun h => ?_) (fun h => h)
  rw [h]
  exact kitAny_nil
/-- what is due: ints and bools, tuples of them, n deep -/
def lvl : Nat → PyData → Prop
  | 0, _ => False
  | _ + 1, .int _ => True
  | _ + 1, .bool _ => True
  | n + 1, .tuple es => es.length ≤ 1000 ∧ ∀ e ∈ es, lvl n e
  | _ + 1, _ => False
def alk : Nat → PyData → PyData → Bool
  | n + 1, .tuple ds, .tuple es => decide (ds.length = es.length) && (List.range es.length).all fun i => alk n (ds.getD i .none) (es.getD i .none)
  | _ + 1, .int a, .int b => decide (a = b)
  | _ + 1, .bool a, .bool b => decide (a = b)
  | _, _, _ => false
theorem alk_notT {n : Nat} {d : PyData} {es : List PyData} (h : isT d = false) : alk (n + 1) d (.tuple es) = false := by
  cases d <;> first | rfl | cases h
section
variable {P : Program} {w : World} {K : PySem.W.Frag} {mg : Str → Option Value} {base : Heap}
abbrev sAlike : Stmt := top 27
abbrev nAlike : List Str := ["_law_found", "_law_due", "_law_k"]
theorem scAlike : FnScope nAlike ["_law_found", "_law_due"] (defScope sAlike) := ⟨rfl, rfl, rfl, by decide +kernel, rfl, by decide +kernel, by decide +kernel⟩
def spAlike (K : PySem.W.Frag) (n : Nat) : Sp := fun vs H Q _ => ∃ x y d e, vs = [x, y] ∧ Fd K H x d ∧ Dp K H y e ∧ lvl n e ∧ ∀ H', Same H H' → Q (.bl (alk n d e)) H'
theorem alike0 (D : Df K mg "_law_alike" sAlike ["_law_found", "_law_due"]) : Cal P w K mg base 0 "_law_alike" (spAlike K 0) := by
  obtain ⟨f, fd, F, hm, b⟩ := D.ex
  have no : ∀ vs H Q E, ¬ spAlike K 0 vs H Q E := by
    rintro vs H Q E ⟨_, _, _, _, _, _, _, h, _⟩
    exact h
  exact ⟨f, fd, _, ⟨fun vs H Q E h => absurd h (no vs H Q E), fun A outer s H args us vs Q E _ _ _ _ h => absurd h (no vs H Q E)⟩, hm, F.kp, b⟩
theorem ok_alike (B : Bi mg) (D : Df K mg "_law_alike" sAlike ["_law_found", "_law_due"]) (n : Nat) (cR : Cal P w K mg base n "_law_alike" (spAlike K n)) : Cal P w K mg base (n + 1) "_law_alike" (spAlike K (n + 1)) := by
  refine cal_of D scAlike (fun vs H Q E h => ?_) (fun f cdv A outer s H vs Q E hr h => ?_)
  · obtain ⟨x, y, d, e, rfl, _⟩ := h
    rfl
  obtain ⟨x, y, d, e, rfl, hx, hy, hl, q⟩ := h
  refine ⟨_, pss_cons (ps_if (pt_val (pe_callB call_isiT (by rfl) B.isi (by decide +kernel) (pa_cons (pv 1) (pa_cons (pe_tup (pa_cons (pe_bltn (v := .ty "tuple") (by rfl) B.tuple (by decide +kernel) rfl) (pa_cons (pe_bltn (v := .ty "list") (by rfl) B.list (by decide +kernel) rfl) pa_nil))) pa_nil))))
      (pss_cons (ps_if (PW.pt (pw_or (pt_not (pt_val (pe_callB call_isiT (by rfl) B.isi (by decide +kernel) (pa_cons (pv 0) (pa_cons (pe_tup (pa_cons (pe_bltn (v := .ty "tuple") (by rfl) B.tuple (by decide +kernel) rfl) (pa_cons (pe_bltn (v := .ty "list") (by rfl) B.list (by decide +kernel) rfl) pa_nil))) pa_nil)))))
          (pw_or1 (pt_cmpR op_ne (pe_callB call_isi (by rfl) B.isi (by decide +kernel) (pa_cons (pv 0) (pa_cons (pe_bltn (v := .ty "list") (by rfl) B.list (by decide +kernel) rfl) pa_nil)))
            (pe_callB call_isi (by rfl) B.isi (by decide +kernel) (pa_cons (pv 1) (pa_cons (pe_bltn (v := .ty "list") (by rfl) B.list (by decide +kernel) rfl) pa_nil))) (nomark _))))) (pss_one (ps_ret pe_bl)) pss_nil)
      (pss_cons (ps_if (pt_cmpR op_ne (pe_callB call_len_seq (by rfl) B.len PySem.boot_len (pa_cons (pv 0) pa_nil)) (pe_callB call_len_seq (by rfl) B.len PySem.boot_len (pa_cons (pv 1) pa_nil)) (nomark _)) (pss_one (ps_ret pe_bl)) pss_nil)
      (pss_one (ps_ret (pe_cmpR (op_eqD hr.units)
        (pe_lc (own := [("_law_k", 2)]) (g := gName 2) (tt := tNot (tB (tCall (spAlike K n) [] E0 (tCons (tOp (rIxT K) (tVar 0) (tVar 2)) (tCons (tOp (rIxT K) (tVar 1) (tVar 2)) tNil))))) rfl scAlike.nd (pi_range1 (by rfl) B.range (pa_cons (pe_callB call_len_seq (by rfl) B.len PySem.boot_len (pa_cons (pv 1) pa_nil)) pa_nil)) (blkOk_by (N := nAlike) (sc := defScope sAlike) (by decide +kernel))
          (fun _ _ _ _ _ => pg_name (i := 2) scAlike.nd rfl (Or.inl rfl))
          (fun _ _ _ _ _ => pts_one (pt_not (pt_val (pc cR hr (Nat.le_refl _) (pa_cons (pe_ix ix_tup (pv 0) (pv 2) (fun _ _ => rfl)) (pa_cons (pe_ix ix_tup (pv 1) (pv 2) (fun _ _ => rfl)) pa_nil))))))
          (fun _ _ _ _ _ => pv 2)) (pe_lst pa_nil) (nomark _)))))) pss_nil)
    (pss_cons (ps_if (PW.pt (pw_or (pt_cmpR op_isN (pv 1) pe_non (nomark _)) (pw_or1 (pt_val (pe_callB call_isi (by rfl) B.isi (by decide +kernel) (pa_cons (pv 1) (pa_cons (pe_bltn (v := .ty "str") (by rfl) B.str (by decide +kernel) rfl) pa_nil))))))) (pss_one ps_never) pss_nil)
    (pss_one (ps_ret (pe_and (pe_callB call_isi (by rfl) B.isi (by decide +kernel) (pa_cons (pv 0) (pa_cons (pe_bltn (v := .ty "int") (by rfl) B.int (by decide +kernel) rfl) pa_nil)))
      (pe_and (pe_cmpR op_eq (pe_callB call_isi (by rfl) B.isi (by decide +kernel) (pa_cons (pv 0) (pa_cons (pe_bltn (v := .ty "bool") (by rfl) B.bool (by decide +kernel) rfl) pa_nil)))
          (pe_callB call_isi (by rfl) B.isi (by decide +kernel) (pa_cons (pv 1) (pa_cons (pe_bltn (v := .ty "bool") (by rfl) B.bool (by decide +kernel) rfl) pa_nil))) (nomark _))
        (pe_one (pe_cmpR op_eq (pv 0) (pv 1) (nomark _)))))))), ?_⟩
  have hy0 : Fd K H y e := .inl hy
  have pcl : Paired ClsV [V.ty "tuple", V.ty "list"] [Value.type "tuple", Value.type "list"] := .cons (.ty _) (.cons (.ty _) .nil)
  -- isinstance(due, (tuple, list))
  refine ⟨_, rfl, (by show 2 ≤ sizeLine; decide), fun T nT => ?_⟩
  have s1 := same_new (o := .tup [V.ty "tuple", V.ty "list"]) nT
  refine ⟨y, T, _, _, _, _, rfl, upd_same, pcl, (hy0.same s1).ty, kTL e, _, rfl, ?_⟩
  generalize upd H T (.tup [V.ty "tuple", V.ty "list"]) = H1 at s1 ⊢
  cases e with
  | tuple es =>
    obtain ⟨hle, hes⟩ := hl
    refine iteT ?_
    refine ⟨_, rfl, (by show 2 ≤ sizeLine; decide), fun T2 nT2 => ?_⟩
    have s2 := same_new (o := .tup [V.ty "tuple", V.ty "list"]) nT2
    have s12 := s1.trans s2
    refine ⟨x, T2, _, _, _, _, rfl, upd_same, pcl, (hx.same s12).ty, kTL d, _, rfl, ?_⟩
    generalize upd H1 T2 (.tup [V.ty "tuple", V.ty "list"]) = H2 at s12 ⊢
    by_cases c : isT d = true
    · obtain ⟨ds, rfl⟩ : ∃ ds, d = .tuple ds := by
        cases d <;> first | exact ⟨_, rfl⟩ | cases c
      refine iteF ?_
      refine ⟨_, rfl, _, _, _, _, _, rfl, .ty _, (hx.same s12).ty, kL _, _, rfl, _, _, _, _, _, rfl, .ty _, (hy0.same s12).ty, kL _, rfl, _, rfl, ?_⟩
      refine iteF ?_
      -- len(found) != len(due)
      have hx2 : Dp K H2 x (.tuple ds) := by
        rcases hx.same s12 with h | ⟨_, _, _, h⟩
        · exact h
        · cases h
      have hy2 := hy.same s12 _
      obtain ⟨a, xs, rfl, hS, hX⟩ := hx2.tupI
      obtain ⟨b, ys, rfl, hT, hY⟩ := hy2.tupI
      refine ⟨_, rfl, a, xs, rfl, .inr hS, _, rfl, b, ys, rfl, .inr hT, rfl, _, rfl, ?_⟩
      by_cases c2 : ds.length = es.length
      · rw [decide_eq_true (show V.int (xs.length : Int) = V.int (ys.length : Int) by rw [hX.len, hY.len, c2])]
        refine iteF ?_
        -- the list of unlike places
        have hq : alk (n + 1) (.tuple ds) (.tuple es) = (List.range es.length).all fun i => alk n (ds.getD i .none) (es.getD i .none) := by
          show (decide (ds.length = es.length) && _) = _
          rw [decide_eq_true c2, Bool.true_and]
        rw [hq] at q
        refine ⟨_, rfl, b, ys, rfl, .inr hT, _, rfl, by omega, by have := hY.len; omega, fun C nC => ?_⟩
        rw [show (((ys.length : Nat) : Int)).toNat = es.length by rw [hY.len]; omega]
        refine lc_range (lo := 0) (n := es.length) (fun j H' => ∃ bad : List Int, Same H2 H' ∧ H' C = some (.lst (bad.map V.int)) ∧ bad.isEmpty = (List.range j).all (fun i => alk n (ds.getD i .none) (es.getD i .none)) ∧ bad.length ≤ j) ⟨[], same_new nC, upd_same, rfl, Nat.le_refl _⟩ ?_ ?_
        · rintro j H3 hj ⟨bad, s3, eC, hb, lb⟩
          have jd : j < ds.length := by omega
          obtain ⟨u, hu, du⟩ := hX.at (i := j) (List.getElem?_eq_getElem jd)
          obtain ⟨v, hv, dv⟩ := hY.at (i := j) (List.getElem?_eq_getElem hj)
          have ed : ds.getD j .none = ds[j] := by rw [List.getD_eq_getElem?_getD, List.getElem?_eq_getElem jd]; rfl
          have ee : es.getD j .none = es[j] := by rw [List.getD_eq_getElem?_getD, List.getElem?_eq_getElem hj]; rfl
          refine ⟨rfl, ?_⟩
          refine ⟨_, rfl, _, rfl, a, xs, _, u, rfl, rfl, same_seqT s3 hS, at_of (by omega) hu, _, rfl, _, rfl, b, ys, _, v, rfl, rfl, same_seqT s3 hT, at_of (by omega) hv, ?_⟩
          refine ⟨u, v, ds[j], es[j], rfl, .inl (du.same s3 _), dv.same s3 _, hes _ (List.getElem_mem hj), fun H4 s4 => ⟨_, rfl, ?_⟩⟩
          have s34 := s3.trans s4
          have eC4 := s4 _ _ eC
          have hrange : (List.range (j + 1)).all (fun i => alk n (ds.getD i .none) (es.getD i .none)) = (bad.isEmpty && alk n ds[j] es[j]) := by
            rw [List.range_succ, List.all_append, ← hb]
            simp only [List.all_cons, List.all_nil, Bool.and_true, ed, ee]
          by_cases c3 : alk n ds[j] es[j] = true
          · rw [c3]
            rw [c3, Bool.and_true] at hrange
            exact iteF ⟨bad, s34, eC4, hrange.symm, by omega⟩
          · rw [Bool.not_eq_true] at c3
            rw [c3]
            rw [c3, Bool.and_false] at hrange
            refine iteT ⟨_, rfl, _, eC4, sizeS (by rw [List.length_map]; omega), bad ++ [0 + (j : Int)], same_set s34 nC, ?_, ?_, ?_⟩
            · rw [upd_same, List.map_append]
              rfl
            · rw [hrange]
              simp
            · rw [List.length_append, List.length_singleton]
              omega
        · rintro H3 ⟨bad, s3, eC, hb, lb⟩
          refine ⟨Nat.zero_le _, fun C2 nC2 => ?_⟩
          have s4 := same_new (o := .lst []) nC2
          refine ⟨.list (bad.map .int), .list [], .lst (.of (s4 _ _ eC)) (dp_ints bad), .lst (.of upd_same) .nil, shaped_ints bad, shaped_nil, ?_⟩
          rw [eqv_nil, show (bad.map PyData.int).isEmpty = bad.isEmpty by cases bad <;> rfl, hb]
          exact q _ ((s12.trans s3).trans s4)
      · rw [decide_eq_false (show ¬ V.int (xs.length : Int) = V.int (ys.length : Int) from fun z => c2 (by
          have := V.int.inj z
          rw [hX.len, hY.len] at this
          omega))]
        refine iteT ?_
        have hq : alk (n + 1) (.tuple ds) (.tuple es) = false := by
          show (decide (ds.length = es.length) && _) = _
          rw [decide_eq_false c2, Bool.false_and]
        rw [hq] at q
        exact q H2 s12
    · rw [Bool.not_eq_true] at c
      rw [alk_notT c] at q
      rw [c, Bool.false_or]
      by_cases c2 : isL d = true
      · rw [c2]
        refine iteF ?_
        refine ⟨_, rfl, _, _, _, _, _, rfl, .ty _, (hx.same s12).ty, kL _, _, rfl, _, _, _, _, _, rfl, .ty _, (hy0.same s12).ty, kL _, rfl, _, rfl, ?_⟩
        rw [c2]
        exact iteT (q H2 s12)
      · rw [Bool.not_eq_true] at c2
        rw [c2]
        exact iteT (iteT (q H2 s12))
  | int i =>
    refine iteF ?_
    cases hy with
    | int i =>
    refine ⟨_, rfl, rfl, _, rfl, ?_⟩
    refine iteF ⟨_, rfl, _, _, _, _, false, rfl, .ty _, .base (.int i), kit_ty (by decide +kernel), _, rfl, iteF ?_⟩
    refine ⟨_, rfl, _, _, _, _, _, rfl, .ty _, (hx.same s1).ty, kI d, _, rfl, ?_⟩
    cases d with
    | int j =>
      have ex : x = .int j := by
        rcases hx with h | ⟨_, _, _, h⟩
        · exact h.intI
        · cases h
      subst ex
      refine iteT ⟨_, rfl, _, _, _, _, _, rfl, .ty _, .base (.int j), kB (.int j), _, rfl, _, _, _, _, _, rfl, .ty _, .base (.int i), kB (.int i), rfl, _, rfl, iteT ?_⟩
      refine ⟨_, rfl, _, rfl, rfl, ?_⟩
      have eq : decide (V.int j = V.int i) = decide (j = i) := by
        by_cases c : j = i
        · rw [decide_eq_true c, decide_eq_true (by rw [c])]
        · rw [decide_eq_false c, decide_eq_false (fun z => c (V.int.inj z))]
      rw [eq]
      exact q H1 s1
    | bool j =>
      have ex : x = .bl j := by
        rcases hx with h | ⟨_, _, _, h⟩
        · cases h
          rfl
        · cases h
      subst ex
      refine iteT ⟨_, rfl, _, _, _, _, _, rfl, .ty _, .base (.bl j), kB (.bool j), _, rfl, _, _, _, _, _, rfl, .ty _, .base (.int i), kB (.int i), rfl, _, rfl, iteF ?_⟩
      exact q H1 s1
    | none => exact iteF (q H1 s1)
    | str _ => exact iteF (q H1 s1)
    | list _ => exact iteF (q H1 s1)
    | tuple _ => exact iteF (q H1 s1)
    | dict _ => exact iteF (q H1 s1)
  | bool i =>
    refine iteF ?_
    cases hy with
    | bl i =>
    refine ⟨_, rfl, rfl, _, rfl, ?_⟩
    refine iteF ⟨_, rfl, _, _, _, _, false, rfl, .ty _, .base (.bl i), kit_ty (by decide +kernel), _, rfl, iteF ?_⟩
    refine ⟨_, rfl, _, _, _, _, _, rfl, .ty _, (hx.same s1).ty, kI d, _, rfl, ?_⟩
    cases d with
    | int j =>
      have ex : x = .int j := by
        rcases hx with h | ⟨_, _, _, h⟩
        · exact h.intI
        · cases h
      subst ex
      refine iteT ⟨_, rfl, _, _, _, _, _, rfl, .ty _, .base (.int j), kB (.int j), _, rfl, _, _, _, _, _, rfl, .ty _, .base (.bl i), kB (.bool i), rfl, _, rfl, iteF ?_⟩
      exact q H1 s1
    | bool j =>
      have ex : x = .bl j := by
        rcases hx with h | ⟨_, _, _, h⟩
        · cases h
          rfl
        · cases h
      subst ex
      refine iteT ⟨_, rfl, _, _, _, _, _, rfl, .ty _, .base (.bl j), kB (.bool j), _, rfl, _, _, _, _, _, rfl, .ty _, .base (.bl i), kB (.bool i), rfl, _, rfl, iteT ?_⟩
      refine ⟨_, rfl, _, rfl, rfl, ?_⟩
      have eq : decide (V.bl j = V.bl i) = decide (j = i) := by
        by_cases c : j = i
        · rw [decide_eq_true c, decide_eq_true (by rw [c])]
        · rw [decide_eq_false c, decide_eq_false (fun z => c (V.bl.inj z))]
      rw [eq]
      exact q H1 s1
    | none => exact iteF (q H1 s1)
    | str _ => exact iteF (q H1 s1)
    | list _ => exact iteF (q H1 s1)
    | tuple _ => exact iteF (q H1 s1)
    | dict _ => exact iteF (q H1 s1)
  | none => exact hl.elim
  | str _ => exact hl.elim
  | list _ => exact hl.elim
  | dict _ => exact hl.elim
end
end SW
/-! B13: _law_group, _law_mark, _law_pieces. -/
namespace SW
open PySem PySem.Spec PyProof.Rows L2 SW0 SWM
theorem grp_rng {m x : Int} (h : x ∈ grp m) : 0 ≤ x ∧ x ≤ 9 := by
  unfold grp at h
  rw [List.mem_filter, List.mem_map] at h
  obtain ⟨⟨i, hi, e⟩, _⟩ := h
  rw [List.mem_range] at hi
  omega
theorem grp_len (m : Int) : (grp m).length ≤ 10 := by
  unfold grp
  refine Nat.le_trans (List.length_filter_le _ _) ?_
  rw [List.length_map, List.length_range]
  exact Nat.le_refl _
def gpre (m : Int) (j : Nat) : List Int := ((List.range j).map fun (i : Nat) => (i : Int)).filter fun t => decide (m / 2 ^ t.toNat % 2 = 1)
theorem gpre_next (m : Int) (j : Nat) : gpre m (j + 1) = gpre m j ++ (if m / 2 ^ j % 2 = 1 then [(j : Int)] else []) := by
  unfold gpre
  rw [List.range_succ, List.map_append, List.filter_append]
  by_cases c : m / 2 ^ j % 2 = 1
  · simp [c]
  · simp [c]
section
variable {P : Program} {w : World} {K : PySem.W.Frag} {mg : Str → Option Value} {base : Heap}
abbrev sGroup : Stmt := top 28
abbrev nGroup : List Str := ["_law_mark_here", "_law_told"]
theorem scGroup : FnScope nGroup ["_law_mark_here"] (defScope sGroup) := ⟨rfl, rfl, rfl, by decide +kernel, rfl, by decide +kernel, by decide +kernel⟩
def spGroup (K : PySem.W.Frag) : Sp := fun vs H Q _ => ∃ m, vs = [.int m] ∧ ∀ H' p, Same H H' → SqT K H' p ((grp m).map V.int) → Q (.ref p) H'
theorem ok_group (B : Bi mg) (D : Df K mg "_law_group" sGroup ["_law_mark_here"]) : Cal P w K mg base 1 "_law_group" (spGroup K) := by
  refine cal_of D scGroup (fun vs H Q E h => ?_) (fun f cdv A outer s H vs Q E hr h => ?_)
  · obtain ⟨m, rfl, _⟩ := h
    rfl
  obtain ⟨m, rfl, q⟩ := h
  refine ⟨_, pss_one (ps_ret (pe_callTy call_tuple_of (by rfl) B.tuple (by decide +kernel) (pa_cons
    (pe_lc (own := [("_law_told", 1)]) (g := gName 1) rfl scGroup.nd (pi_range1 (by rfl) B.range (pa_cons pe_int pa_nil)) (blkOk_by (N := nGroup) (sc := defScope sGroup) (by decide +kernel)) (fun _ _ _ _ _ => pg_name (i := 1) scGroup.nd rfl (Or.inl rfl))
      (fun _ _ _ _ _ => pts_one (pt_cmpR op_eq (pe_op op_mod (pe_callTy call_int1 (by rfl) B.int (by decide +kernel) (pa_cons (pe_op op_shr (pv 0) (pv 1)) pa_nil)) pe_int) pe_int (nomark _))) (fun _ _ _ _ _ => pv 1)) pa_nil))), ?_⟩
  refine ⟨10, rfl, by decide, by decide, fun C nC => ?_⟩
  rw [show ((10 : Int)).toNat = 10 from rfl]
  refine lc_range (lo := 0) (n := 10) (fun j H' => Same H H' ∧ H' C = some (.lst ((gpre m j).map V.int)) ∧ (gpre m j).length ≤ j) ⟨same_new nC, upd_same, Nat.le_refl _⟩ ?_ ?_
  · rintro j H1 hj ⟨s1, eC, lC⟩
    have ej : (0 + (j : Int)).toNat = j := by omega
    refine ⟨rfl, ?_⟩
    refine ⟨_, rfl, _, rfl, m, 0 + (j : Int), rfl, rfl, by omega, .inl ⟨_, rfl, _, _, rfl, rfl, (by show (0 : Int) < 2; decide), rfl, _, rfl, ?_⟩⟩
    rw [ej]
    by_cases c : m / 2 ^ j % 2 = 1
    · rw [decide_eq_true (show V.int (m / 2 ^ j % 2) = V.int 1 by rw [c])]
      refine iteT ⟨_, rfl, _, eC, sizeS (by rw [List.length_map]; omega), same_set s1 nC, ?_, ?_⟩
      · rw [upd_same, gpre_next, if_pos c, List.map_append, Int.zero_add]
        rfl
      · rw [gpre_next, if_pos c, List.length_append, List.length_singleton]
        omega
    · rw [decide_eq_false (show ¬ V.int (m / 2 ^ j % 2) = V.int 1 from fun z => c (V.int.inj z))]
      refine iteF ⟨s1, ?_, ?_⟩
      · rw [gpre_next, if_neg c, List.append_nil]
        exact eC
      · rw [gpre_next, if_neg c, List.append_nil]
        omega
  · rintro H1 ⟨s1, eC, lC⟩
    exact ⟨C, _, rfl, .inl ⟨.of eC, fun T nT => q _ T (same_add s1 nT) (.of upd_same)⟩⟩
abbrev sMark : Stmt := top 29
abbrev nMark : List Str := ["_law_group_here", "_law_told"]
theorem scMark : FnScope nMark ["_law_group_here"] (defScope sMark) := ⟨rfl, rfl, rfl, by decide +kernel, rfl, by decide +kernel, by decide +kernel⟩
def spMark (K : PySem.W.Frag) : Sp := fun vs H Q _ => ∃ (a : Addr) (p : List Int), vs = [.ref a] ∧ SqL K H a (p.map V.int) ∧ p.length ≤ 1000 ∧ (∀ x ∈ p, 0 ≤ x ∧ x ≤ 9) ∧ ∀ H' i, Same H H' → Q (.int i) H'
theorem ok_mark (B : Bi mg) (D : Df K mg "_law_mark" sMark ["_law_group_here"]) : Cal P w K mg base 1 "_law_mark" (spMark K) := by
  refine cal_of D scMark (fun vs H Q E h => ?_) (fun f cdv A outer s H vs Q E hr h => ?_)
  · obtain ⟨a, p, rfl, _⟩ := h
    rfl
  obtain ⟨a, p, rfl, hA, hl, hx, q⟩ := h
  refine ⟨_, pss_one (ps_ret (pe_callB (cr_sum rfl) (by rfl) B.sum (by decide +kernel) (pa_cons
    (pe_lc (own := [("_law_told", 1)]) (g := gName 1) (tt := tYes) rfl scMark.nd (pi_list (pv 0)) (blkOk_by (N := nMark) (sc := defScope sMark) (by decide +kernel)) (fun _ _ _ _ _ => pg_name (i := 1) scMark.nd rfl (Or.inl rfl)) (fun _ _ _ _ _ => pts_nil)
      (fun _ _ _ _ _ => pe_op op_shl pe_int (pv 1))) pa_nil))), ?_⟩
  refine ⟨_, rfl, a, rfl, ⟨_, hA⟩, fun C nC => lc_list (K := K) (a := a) (xs := p.map V.int) (fun j H' => ∃ ns : List Int, Same H H' ∧ H' C = some (.lst (ns.map V.int)) ∧ ns.length ≤ j) ⟨[], same_new nC, upd_same, Nat.le_refl _⟩ (fun j H' _ ⟨_, s, _⟩ => s.seq hA) ?_ ?_⟩
  · rintro j y H1 hj ⟨ns, s1, eC, lC⟩
    rw [List.getElem?_map] at hj
    obtain ⟨z, hz, rfl⟩ := Option.map_eq_some_iff.mp hj
    have hz' := hx z (List.mem_of_getElem? hz)
    have hjl := (List.getElem?_eq_some_iff.mp hz).1
    refine ⟨rfl, _, rfl, 1, z, rfl, rfl, ⟨hz'.1, by omega, by decide⟩, _, eC, sizeS (by rw [List.length_map]; omega), ns ++ [1 * 2 ^ z.toNat], same_set s1 nC, ?_, ?_⟩
    · rw [upd_same, List.map_append]
      rfl
    · rw [List.length_append, List.length_singleton]
      omega
  · rintro H1 ⟨ns, s1, eC, _⟩
    exact ⟨C, ns, rfl, .of eC, q H1 _ s1⟩
end
end SW
/-! B14: _law_pieces. -/
namespace SW
open PySem PySem.Spec PyProof.Rows L2 SW0 SWM
def ad (left part : List Int) (d : Int × Int) : List Int := add1 left part d.1 d.2
theorem add2_dirs (left part : List Int) (p : Int × Int) : (dirs p).foldl (ad left) part = add2 left part p := rfl
theorem add1_sub {left part : List Int} {a b : Int} (h : ∀ x ∈ part, x ∈ left) : ∀ x ∈ add1 left part a b, x ∈ left := by
  unfold add1
  split
  · rename_i c
    intro x hx
    rcases List.mem_append.mp hx with hx | hx
    · exact h x hx
    · rw [List.mem_singleton.mp hx]
      exact c.2.1
  · exact h
theorem part1_eq (t : List (Int × Int)) (left : List Int) : part1 t left = rounds left t left.length [left.headD 0] := rfl
theorem pieces_nil (t : List (Int × Int)) (f : Nat) : pieces t f [] = 0 := by
  cases f with
  | zero => rfl
  | succ f =>
    unfold pieces
    rw [if_pos rfl]
theorem pieces_cons {t : List (Int × Int)} {f : Nat} {left : List Int} (h : left ≠ []) (hf : left.length ≤ f) : ∃ f', f = f' + 1 ∧ pieces t f left = 1 + pieces t f' (cut t left) ∧ (cut t left).length ≤ f' := by
  have hp : 0 < left.length := List.length_pos_iff.mpr h
  have hc := cut_lt (links := t) h
  cases f with
  | zero => omega
  | succ f' =>
    refine ⟨f', rfl, ?_, by omega⟩
    rw [pieces, if_neg h]
section
variable {P : Program} {w : World} {K : PySem.W.Frag} {mg : Str → Option Value} {base : Heap}
abbrev sPieces : Stmt := top 30
abbrev nPieces : List Str := ["_law_links", "_law_mark_here", "_law_left", "_law_found", "_law_part", "_law_turn", "_law_one", "_law_other", "_law_near", "_law_far", "_law_told"]
theorem scPieces : FnScope nPieces ["_law_links", "_law_mark_here"] (defScope sPieces) := ⟨rfl, rfl, rfl, by decide +kernel, rfl, by decide +kernel, by decide +kernel⟩
def spPieces (K : PySem.W.Frag) : Sp := fun vs H Q _ => ∃ v t m, vs = [v, .int m] ∧ Dp K H v (tD t) ∧ t.length ≤ 10 ∧ ∀ H' p xs, Same H H' → H' p = some (.lst xs) → xs.length = pieces t (grp m).length (grp m) → Q (.ref p) H'
theorem ok_pieces (B : Bi mg) (D : Df K mg "_law_pieces" sPieces ["_law_links", "_law_mark_here"]) (cG : Cal P w K mg base 1 "_law_group" (spGroup K)) (cM : Cal P w K mg base 1 "_law_mark" (spMark K)) : Cal P w K mg base 2 "_law_pieces" (spPieces K) := by
  refine cal_of D scPieces (fun vs H Q E h => ?_) (fun f cdv A outer s H vs Q E hr h => ?_)
  · obtain ⟨v, t, m, rfl, _⟩ := h
    rfl
  obtain ⟨v, t, m, rfl, hv, ht10, q⟩ := h
  refine ⟨_, pss_cons (ps_par (i := 2) (j := 3) rfl scPieces.nd rfl rfl (by decide) rfl rfl (pa_cons (pe_callTy call_list_of (by rfl) B.list (by decide +kernel) (pa_cons (pc cG hr (by decide) (pa_cons (pv 1) pa_nil)) pa_nil)) (pa_cons (pe_lst pa_nil) pa_nil)) (by rfl))
    (pss_cons (ps_while PassesOwn.never (pt_cmpR (op_neD hr.units) (pv 2) (pe_lst pa_nil) (nomark _))
      (pss_cons (ps_set (i := 4) scPieces.nd rfl (.inr rfl) (pe_lst (pa_cons (pe_ix ix_list (pv 2) pe_int (fun _ _ => rfl)) pa_nil)))
      (pss_cons (ps_for PassesOwn.never rfl (pi_range1 (by rfl) B.range (pa_cons (pe_callB call_len_seq (by rfl) B.len PySem.boot_len (pa_cons (pv 2) pa_nil)) pa_nil)) (pg_name (i := 5) scPieces.nd rfl (.inl rfl))
        (pss_one (ps_for PassesOwn.never rfl (pi_tup (pv 0)) (pg_tup rfl (pgs_cons (pg_name (i := 6) scPieces.nd rfl (.inl rfl)) (pgs_cons (pg_name (i := 7) scPieces.nd rfl (.inl rfl)) pgs_nil)))
          (pss_one (ps_for PassesOwn.never rfl (pi_list (pe_lst (pa_cons (pe_tup (pa_cons (pv 6) (pa_cons (pv 7) pa_nil))) (pa_cons (pe_tup (pa_cons (pv 7) (pa_cons (pv 6) pa_nil))) pa_nil)))) (pg_tup rfl (pgs_cons (pg_name (i := 8) scPieces.nd rfl (.inl rfl)) (pgs_cons (pg_name (i := 9) scPieces.nd rfl (.inl rfl)) pgs_nil)))
            (pss_one (ps_if (PW.pt (pw_and (pt_cmpR op_in_seq (pv 8) (pv 4) (by rfl)) (pw_and (pt_cmpR op_in_seq (pv 9) (pv 2) (by rfl)) (pw_and1 (pt_cmpR op_notIn_seq (pv 9) (pv 4) (by rfl))))))
              (pss_one (ps_expr (pe_bm PySem.F.plainAttrs_list PySem.F.slot_list_append PySem.F.type_list_append mt_append (pv 4) (pa_cons (pv 9) pa_nil)))) pss_nil)))))))
      (pss_cons (ps_expr (pe_bm PySem.F.plainAttrs_list PySem.F.slot_list_append PySem.F.type_list_append mt_append (pv 3) (pa_cons (pc cM hr (by decide) (pa_cons (pv 4) pa_nil)) pa_nil)))
      (pss_one (ps_setLc (i := 2) (own := [("_law_told", 10)]) (g := gName 10) (tt := tTest (tOp (rIn K true) (tVar 10) (tVar 4))) rfl scPieces.nd rfl rfl (sw_true rfl rfl rfl (by decide +kernel)) (pi_list (pv 2)) (blkOk_by (N := nPieces) (sc := defScope sPieces) (by decide +kernel))
        (fun _ _ _ _ _ => pg_name (i := 10) scPieces.nd rfl (Or.inl rfl)) (fun _ _ _ _ _ => pts_one (pt_cmpR op_notIn_seq (pv 10) (pv 4) (by rfl))) (fun _ _ _ _ _ => pv 10)))))))
    (pss_one (ps_ret (pv 3)))), ?_⟩
  obtain ⟨a, xs, rfl, hT, hX⟩ := hv.tupI
  have nlt := nl_all nl_p t
  -- left, found
  refine ⟨_, rfl, m, rfl, fun H1 gp s1 hg => ?_⟩
  refine ⟨gp, _, rfl, .inr hg, fun L nL => ?_⟩
  refine ⟨Nat.zero_le _, fun F nF => ⟨_, _, rfl, ?_⟩⟩
  have nLF : L ≠ F := ne_of_none upd_same nF
  have s2 := s1.trans (same_new (o := .lst ((grp m).map V.int)) nL)
  have s3 := s2.trans (same_new (o := .lst []) nF)
  have nF0 : H F = none := s2.free nF
  have eL0 : (upd (upd H1 L (.lst ((grp m).map V.int))) F (.lst [])) L = some (.lst ((grp m).map V.int)) := by rw [upd_ne nLF, upd_same]
  have eF0 : (upd (upd H1 L (.lst ((grp m).map V.int))) F (.lst [])) F = some (.lst []) := upd_same
  generalize upd (upd H1 L (.lst ((grp m).map V.int))) F (.lst []) = H2 at s3 eL0 eF0 ⊢
  -- while left != []
  refine ⟨fun k σ H' => ∃ left acc f L s4 s5 s6 s7 s8 s9, σ = [some (.ref a), some (.int m), some (.ref L), some (.ref F), s4, s5, s6, s7, s8, s9, none] ∧ Same H H' ∧ H' L = some (.lst (left.map V.int)) ∧ L ≠ F ∧ H' F = some (.lst acc) ∧
    acc.length + pieces t f left = pieces t (grp m).length (grp m) ∧ left.length ≤ f ∧ left.length ≤ 10 ∧ acc.length + left.length ≤ 10 ∧ (∀ x ∈ left, 0 ≤ x ∧ x ≤ 9) ∧ k = left.length,
    ⟨_, grp m, [], (grp m).length, L, _, _, _, _, _, _, rfl, s3, eL0, nLF, eF0, by rw [List.length_nil, Nat.zero_add], Nat.le_refl _, grp_len m, by rw [List.length_nil, Nat.zero_add]; exact grp_len m, fun x hx => grp_rng hx, rfl⟩, ?_⟩
  clear eL0 eF0 nLF nL nF s3 s2 s1 hg
  rintro k σ H3 ⟨left, acc, f, L, s4, s5, s6, s7, s8, s9, rfl, sm, eL, nLF, eF, hp, hf, h10, ha10, hrg, rfl⟩
  refine ⟨_, rfl, Nat.zero_le _, fun E0 nE => ?_⟩
  have sE := same_new (o := .lst []) nE
  have smE := sm.trans sE
  have eL3 := sE _ _ eL
  have eF3 := sE _ _ eF
  have eE3 : (upd H3 E0 (.lst [])) E0 = some (.lst []) := upd_same
  generalize upd H3 E0 (.lst []) = H4 at smE eL3 eF3 eE3 ⊢
  clear sE nE eL eF sm
  refine ⟨.list (left.map .int), .list [], .lst (.of eL3) (dp_ints left), .lst (.of eE3) .nil, shaped_ints left, shaped_nil, _, rfl, ?_⟩
  rw [eqv_nil]
  by_cases c : left = []
  · subst c
    refine iteF ?_
    rw [pieces_nil, Nat.add_zero] at hp
    exact ⟨_, rfl, q H4 F acc smE eF3 hp⟩
  rw [show (!(left.map PyData.int).isEmpty) = true by
    cases left with
    | nil => exact absurd rfl c
    | cons x r => rfl]
  refine iteT ?_
  obtain ⟨f', rfl, hp', hf'⟩ := pieces_cons (t := t) c hf
  have hcut := cut_lt (links := t) c
  refine ⟨fun σ' H' => ∃ k', k' < left.length ∧ ∃ left acc f L s4 s5 s6 s7 s8 s9, σ' = [some (.ref a), some (.int m), some (.ref L), some (.ref F), s4, s5, s6, s7, s8, s9, none] ∧ Same H H' ∧ H' L = some (.lst (left.map V.int)) ∧ L ≠ F ∧ H' F = some (.lst acc) ∧
    acc.length + pieces t f left = pieces t (grp m).length (grp m) ∧ left.length ≤ f ∧ left.length ≤ 10 ∧ acc.length + left.length ≤ 10 ∧ (∀ x ∈ left, 0 ≤ x ∧ x ≤ 9) ∧ k' = left.length, fun σ' H' z => z, ?_⟩
  -- part = [left[0]]
  obtain ⟨x0, r0, ex0⟩ : ∃ x0 r0, left = x0 :: r0 := by
    cases left with
    | nil => exact absurd rfl c
    | cons x r => exact ⟨x, r, rfl⟩
  have hd0 : left.headD 0 = x0 := by rw [ex0]; rfl
  have hm0 : x0 ∈ left := by rw [ex0]; exact List.mem_cons_self
  refine ⟨_, rfl, L, _, 0, .int x0, rfl, rfl, .of eL3, (by rw [ex0]; exact at0), (by show 1 ≤ sizeLine; decide), fun Pa nPa => ?_⟩
  have nPF : Pa ≠ F := (ne_of_none eF3 nPa).symm
  have nPL : Pa ≠ L := (ne_of_none eL3 nPa).symm
  have nPa0 : H Pa = none := smE.free nPa
  have sP := same_new (o := .lst [.int x0]) nPa
  have sm5 := smE.trans sP
  have eL5 := sP _ _ eL3
  have eF5 := sP _ _ eF3
  have eP5 : (upd H4 Pa (.lst [.int x0])) Pa = some (.lst (([x0] : List Int).map V.int)) := upd_same
  generalize upd H4 Pa (.lst [.int x0]) = H5 at sm5 eL5 eF5 eP5 ⊢
  clear sP nPa smE eL3 eF3 eE3
  -- for turn in range(len(left))
  refine ⟨_, rfl, L, _, rfl, .inl (.of eL5), _, rfl, by omega, by rw [List.length_map]; omega, ?_⟩
  rw [show ((((left.map V.int).length : Nat) : Int)).toNat = left.length by rw [List.length_map]; omega]
  refine for_range (lo := 0) (n := left.length) (fun j σ H' => ∃ part s5 s6 s7 s8 s9, σ = [some (.ref a), some (.int m), some (.ref L), some (.ref F), some (.ref Pa), s5, s6, s7, s8, s9, none] ∧ Same H H' ∧ H' L = some (.lst (left.map V.int)) ∧ H' F = some (.lst acc) ∧
      H' Pa = some (.lst (part.map V.int)) ∧ rounds left t (left.length - j) part = part1 t left ∧ (∀ x ∈ part, x ∈ left) ∧ part.length ≤ 1 + 20 * j)
    ⟨[x0], _, _, _, _, _, rfl, sm5, eL5, eF5, eP5, by rw [part1_eq, hd0, Nat.sub_zero], fun x hx => by rw [List.mem_singleton.mp hx]; exact hm0, Nat.le_refl _⟩ ?_ ?_
  · clear sm5 eL5 eF5 eP5 s4 s5 s6 s7 s8 s9
    rintro j σ H6 hj ⟨part0, s5, s6, s7, s8, s9, rfl, sm, eL, eF, eP, hro, hsub, hlen⟩
    have hro' : rounds left t (left.length - (j + 1)) (round left t part0) = part1 t left := by
      rw [← hro, show left.length - j = (left.length - (j + 1)) + 1 by omega]
      rfl
    -- for one, other in links
    refine ⟨_, rfl, a, rfl, ⟨_, same_seqT sm hT⟩, for_tup (K := K) (a := a) (xs := xs) (fun i σ H' => ∃ part s6 s7 s8 s9, σ = [some (.ref a), some (.int m), some (.ref L), some (.ref F), some (.ref Pa), some (.int (0 + (j : Int))), s6, s7, s8, s9, none] ∧ Same H H' ∧ H' L = some (.lst (left.map V.int)) ∧ H' F = some (.lst acc) ∧
        H' Pa = some (.lst (part.map V.int)) ∧ (t.drop i).foldl (add2 left) part = round left t part0 ∧ (∀ x ∈ part, x ∈ left) ∧ part.length ≤ 1 + 20 * j + 2 * i)
      ⟨part0, s6, s7, s8, s9, rfl, sm, eL, eF, eP, rfl, hsub, by omega⟩ (fun i σ H' _ ⟨_, _, _, _, _, _, s', _⟩ => same_seqT s' hT) ?_ ?_⟩
    · clear sm eL eF eP hro hro' hsub hlen s5 s6 s7 s8 s9
      rintro i y σ H7 hi ⟨part1', s6, s7, s8, s9, rfl, sm, eL, eF, eP, hfo, hsub, hlen⟩
      obtain ⟨d, hd, hdv⟩ := hX.get hi
      rw [List.getElem?_map] at hd
      obtain ⟨p, hpp, rfl⟩ := Option.map_eq_some_iff.mp hd
      have hil := (List.getElem?_eq_some_iff.mp hpp).1
      obtain ⟨tp, rfl, hTp⟩ := p_tup hdv
      have hdrop : t.drop i = p :: t.drop (i + 1) := List.drop_eq_getElem?_toList_append.trans (by rw [hpp]; rfl)
      rw [hdrop, List.foldl_cons] at hfo
      refine ⟨tp, _, rfl, same_seqT sm hTp, rfl, _, _, rfl, _, _, rfl, rfl, ?_⟩
      -- [(one, other), (other, one)]
      refine ⟨_, rfl, _, rfl, (by show 2 ≤ sizeLine; decide), fun T1 nT1 => ?_⟩
      refine ⟨_, rfl, _, rfl, (by show 2 ≤ sizeLine; decide), fun T2 nT2 => ?_⟩
      refine ⟨(by show 2 ≤ sizeLine; decide), fun T3 nT3 => ?_⟩
      have e1 := same_new (o := .tup [.int p.1, .int p.2]) nT1
      have e2 := same_new (o := .tup [.int p.2, .int p.1]) nT2
      have e3 := same_new (o := .lst [.ref T1, .ref T2]) nT3
      have f1 := e3 _ _ (e2 T1 _ upd_same)
      have f2 := e3 T2 _ upd_same
      have f3 : (upd (upd (upd H7 T1 (.tup [.int p.1, .int p.2])) T2 (.tup [.int p.2, .int p.1])) T3 (.lst [.ref T1, .ref T2])) T3 = some (.lst [.ref T1, .ref T2]) := upd_same
      have g1 := e3 _ _ (e2 _ _ (e1 _ _ eL))
      have g2 := e3 _ _ (e2 _ _ (e1 _ _ eF))
      have g3 := e3 _ _ (e2 _ _ (e1 _ _ eP))
      have nT3P : Pa ≠ T3 := ne_of_none (e2 _ _ (e1 _ _ eP)) nT3
      have sm8 := ((sm.trans e1).trans e2).trans e3
      generalize (upd (upd (upd H7 T1 (.tup [.int p.1, .int p.2])) T2 (.tup [.int p.2, .int p.1])) T3 (.lst [.ref T1, .ref T2])) = H8 at f1 f2 f3 g1 g2 g3 sm8 ⊢
      have hDir : DpAll K H8 [.ref T1, .ref T2] ((dirs p).map pD) := .cons (mk_p (p := (p.1, p.2)) (.of f1)) (.cons (mk_p (p := (p.2, p.1)) (.of f2)) .nil)
      refine ⟨T3, rfl, ⟨_, .of f3⟩, for_list (K := K) (a := T3) (xs := [.ref T1, .ref T2]) (fun z σ H' => ∃ part s8 s9, σ = [some (.ref a), some (.int m), some (.ref L), some (.ref F), some (.ref Pa), some (.int (0 + (j : Int))), some (.int p.1), some (.int p.2), s8, s9, none] ∧ Same H H' ∧ SameT H8 H' ∧
          H' T3 = some (.lst [.ref T1, .ref T2]) ∧ H' L = some (.lst (left.map V.int)) ∧ H' F = some (.lst acc) ∧ H' Pa = some (.lst (part.map V.int)) ∧ ((dirs p).drop z).foldl (ad left) part = add2 left part1' p ∧ (∀ x ∈ part, x ∈ left) ∧ part.length ≤ 1 + 20 * j + 2 * i + z)
        ⟨part1', s8, s9, rfl, sm8, .refl _, f3, g1, g2, g3, rfl, hsub, by omega⟩ (fun z σ H' _ ⟨_, _, _, _, _, _, e, _⟩ => .of e) ?_ ?_⟩
      · clear g1 g2 g3 sm8 f1 f2 f3 hsub hlen e1 e2 e3 nT1 nT2 nT3 eL eF eP s6 s7 s8 s9 sm
        rintro z y σ H9 hz ⟨part, s8, s9, rfl, sm, st, eT3, eL, eF, eP, hfz, hsub, hlen⟩
        obtain ⟨d2, hd2, hdv2⟩ := (hDir.sameT st _ (nl_all nl_p _)).get hz
        rw [List.getElem?_map] at hd2
        obtain ⟨w2, hw2, rfl⟩ := Option.map_eq_some_iff.mp hd2
        have hzl : z < 2 := (List.getElem?_eq_some_iff.mp hw2).1
        obtain ⟨tz, rfl, hTz⟩ := p_tup hdv2
        have hdz : (dirs p).drop z = w2 :: (dirs p).drop (z + 1) := List.drop_eq_getElem?_toList_append.trans (by rw [hw2]; rfl)
        rw [hdz, List.foldl_cons] at hfz
        refine ⟨tz, _, rfl, hTz, rfl, _, _, rfl, _, _, rfl, rfl, ?_⟩
        have skip : ad left part w2 = part → ∃ part' s8' s9', [some (V.ref a), some (.int m), some (.ref L), some (.ref F), some (.ref Pa), some (.int (0 + (j : Int))), some (.int p.1), some (.int p.2), some (.int w2.1), some (.int w2.2), none] =
              [some (V.ref a), some (.int m), some (.ref L), some (.ref F), some (.ref Pa), some (.int (0 + (j : Int))), some (.int p.1), some (.int p.2), s8', s9', none] ∧ Same H H9 ∧ SameT H8 H9 ∧
            H9 T3 = some (.lst [.ref T1, .ref T2]) ∧ H9 L = some (.lst (left.map V.int)) ∧ H9 F = some (.lst acc) ∧ H9 Pa = some (.lst (part'.map V.int)) ∧ ((dirs p).drop (z + 1)).foldl (ad left) part' = add2 left part1' p ∧ (∀ x ∈ part', x ∈ left) ∧ part'.length ≤ 1 + 20 * j + 2 * i + (z + 1) := by
          intro e
          rw [e] at hfz
          exact ⟨part, _, _, rfl, sm, st, eT3, eL, eF, eP, hfz, hsub, by omega⟩
        refine ⟨_, rfl, _, rfl, Pa, _, rfl, .inl (.of eP), rfl, flat_ints part, _, rfl, ?_⟩
        rw [inV_ints]
        by_cases c1 : w2.1 ∈ part
        · rw [decide_eq_true c1]
          refine iteT ⟨_, rfl, _, rfl, L, _, rfl, .inl (.of eL), rfl, flat_ints left, _, rfl, ?_⟩
          rw [inV_ints]
          by_cases c2 : w2.2 ∈ left
          · rw [decide_eq_true c2]
            refine iteT ⟨_, rfl, _, rfl, Pa, _, rfl, .inl (.of eP), rfl, flat_ints part, _, rfl, ?_⟩
            rw [inV_ints]
            by_cases c3 : w2.2 ∈ part
            · rw [decide_eq_true c3]
              refine iteF (skip ?_)
              show (if _ then _ else _) = _
              rw [if_neg (fun z => z.2.2 c3)]
            · rw [decide_eq_false c3]
              refine iteT ?_
              have ea : ad left part w2 = part ++ [w2.2] := by
                show (if _ then _ else _) = _
                rw [if_pos ⟨c1, c2, c3⟩]
              rw [ea] at hfz
              refine ⟨_, rfl, .inl ⟨rfl, _, .of eP⟩, _, rfl, Pa, _, _, rfl, rfl, eP, sizeS (by rw [List.length_map]; omega), ?_⟩
              refine ⟨part ++ [w2.2], _, _, rfl, same_set sm nPa0, st.trans (sameT_lst eP), ?_, ?_, ?_, ?_, hfz, ?_, ?_⟩
              · rw [upd_ne nT3P.symm]
                exact eT3
              · rw [upd_ne nPL.symm]
                exact eL
              · rw [upd_ne nPF.symm]
                exact eF
              · rw [upd_same, List.map_append]
                rfl
              · intro x hx
                rcases List.mem_append.mp hx with hx | hx
                · exact hsub x hx
                · rw [List.mem_singleton.mp hx]
                  exact c2
              · rw [List.length_append, List.length_singleton]
                omega
          · rw [decide_eq_false c2]
            refine iteF (iteF (skip ?_))
            show (if _ then _ else _) = _
            rw [if_neg (fun z => c2 z.2.1)]
        · rw [decide_eq_false c1]
          refine iteF (iteF (skip ?_))
          show (if _ then _ else _) = _
          rw [if_neg (fun z => c1 z.1)]
      · rintro σ H9 ⟨part, s8, s9, rfl, sm, st, eT3, eL, eF, eP, hfz, hsub, hlen⟩
        have e2 : part = add2 left part1' p := hfz
        rw [← e2] at hfo
        exact ⟨part, _, _, _, _, rfl, sm, eL, eF, eP, hfo, hsub, by simp at hlen; omega⟩
    · rintro σ H7 ⟨part, s6, s7, s8, s9, rfl, sm, eL, eF, eP, hfo, hsub, hlen⟩
      have lx : xs.length = t.length := by rw [hX.len, List.length_map]
      rw [lx, List.drop_length] at hfo
      have e2 : part = round left t part0 := hfo
      rw [← e2] at hro'
      exact ⟨part, _, _, _, _, _, rfl, sm, eL, eF, eP, hro', hsub, by omega⟩
  · rintro σ H6 ⟨part, s5', s6', s7', s8', s9', rfl, sm, eL, eF, eP, hro, hsub, hlen⟩
    rw [Nat.sub_self] at hro
    have ep : part = part1 t left := hro
    -- found.append(mark(part))
    refine ⟨_, rfl, .inl ⟨rfl, _, .of eF⟩, _, rfl, Pa, part, rfl, .of eP, by omega, fun x hx => hrg x (hsub x hx), fun H7 mk7 s7 => ?_⟩
    have eF7 := s7 _ _ eF
    have lacc : acc.length < sizeLine := sizeS (by omega)
    refine ⟨F, acc, _, rfl, rfl, eF7, lacc, ?_⟩
    have sm8 := same_set (o := .lst (acc ++ [.int mk7])) (sm.trans s7) nF0
    have eF8 : (upd H7 F (.lst (acc ++ [.int mk7]))) F = some (.lst (acc ++ [.int mk7])) := upd_same
    have eL8 : (upd H7 F (.lst (acc ++ [.int mk7]))) L = some (.lst (left.map V.int)) := by rw [upd_ne nLF]; exact s7 _ _ eL
    have eP8 : (upd H7 F (.lst (acc ++ [.int mk7]))) Pa = some (.lst (part.map V.int)) := by rw [upd_ne nPF]; exact s7 _ _ eP
    generalize upd H7 F (.lst (acc ++ [.int mk7])) = H8 at sm8 eF8 eL8 eP8 ⊢
    -- left = [..]
    refine ⟨_, rfl, L, rfl, ⟨_, .of eL8⟩, fun C nC => lc_list (K := K) (a := L) (xs := left.map V.int) (fun j H' => Same H8 H' ∧ H' C = some (.lst (((left.take j).filter fun x => decide (x ∉ part)).map V.int))) ⟨same_new nC, upd_same⟩ (fun j H' _ s => .of (s.1 _ _ eL8)) ?_ ?_⟩
    · rintro j y H9 hj ⟨s9, eC⟩
      rw [List.getElem?_map] at hj
      obtain ⟨x, hx, rfl⟩ := Option.map_eq_some_iff.mp hj
      have hjl := (List.getElem?_eq_some_iff.mp hx).1
      have eP9 := s9 _ _ eP8
      refine ⟨rfl, ?_⟩
      refine ⟨_, rfl, _, rfl, Pa, _, rfl, .inl (.of eP9), rfl, flat_ints part, _, rfl, ?_⟩
      rw [inV_ints]
      by_cases c1 : x ∈ part
      · rw [decide_eq_true c1]
        refine iteF ⟨s9, ?_⟩
        rw [take_next' hx, List.filter_append, show ([x].filter fun x => decide (x ∉ part)) = [] by simp [c1], List.append_nil]
        exact eC
      · rw [decide_eq_false c1]
        have hsz : ((left.take j).filter fun x => decide (x ∉ part)).length ≤ j := by
          refine Nat.le_trans (List.length_filter_le _ _) ?_
          rw [List.length_take]
          omega
        refine iteT ⟨_, rfl, _, eC, sizeS (by rw [List.length_map]; omega), same_set s9 nC, ?_⟩
        rw [upd_same, take_next' hx, List.filter_append, show ([x].filter fun x => decide (x ∉ part)) = [x] by simp [c1], List.map_append]
        rfl
    · rintro H9 ⟨s9, eC⟩
      rw [List.length_map, List.take_length] at eC
      have ecut : (left.filter fun x => decide (x ∉ part)) = cut t left := by
        rw [ep]
        rfl
      rw [ecut] at eC
      have nCF : C ≠ F := (ne_of_none eF8 nC).symm
      refine ⟨(cut t left).length, hcut, cut t left, acc ++ [.int mk7], f', C, _, _, _, _, _, _, rfl, sm8.trans s9, eC, nCF, s9 _ _ eF8, ?_, hf', by omega, ?_, fun x hx => ?_, rfl⟩
      · rw [List.length_append, List.length_singleton, ← hp, hp']
        omega
      · rw [List.length_append, List.length_singleton]
        omega
      · unfold cut at hx
        exact hrg x (List.mem_filter.mp hx).1
end
end SW
/-! B15: _law_all_trees. -/
namespace SW
open PySem PySem.Spec PyProof.Rows L2 SW0 SWM
def pro (n i : Nat) : List (Int × Int) := (List.range i).flatMap fun (o : Nat) => (List.range (n - o)).map fun (k : Nat) => ((o : Int), (o : Int) + 1 + (k : Int))
theorem pro_next (n i : Nat) : pro n (i + 1) = pro n i ++ (List.range (n - i)).map fun (k : Nat) => ((i : Int), (i : Int) + 1 + (k : Int)) := by
  unfold pro
  rw [List.range_succ, List.flatMap_append]
  simp
def ro (i j : Nat) : List (Int × Int) := (List.range j).map fun (k : Nat) => ((i : Int), (i : Int) + 1 + (k : Int))
theorem ro_next (i j : Nat) : ro i (j + 1) = ro i j ++ [((i : Int), (i : Int) + 1 + (j : Int))] := by
  unfold ro
  rw [List.range_succ, List.map_append]
  rfl
theorem ro_len (i j : Nat) : (ro i j).length = j := by unfold ro; rw [List.length_map, List.length_range]
theorem prs_len {n : Nat} (h3 : n < 4) : (prs n).length ≤ 6 := by
  match n, h3 with
  | 0, _ => decide
  | 1, _ => decide
  | 2, _ => decide
  | 3, _ => decide
theorem nl_tD : ∀ t : List (Int × Int), nl (tD t) = true := nl_t
section
variable {P : Program} {w : World} {K : PySem.W.Frag} {mg : Str → Option Value} {base : Heap}
abbrev sTrees : Stmt := top 31
abbrev nTrees : List Str := ["_law_many", "_law_pairs", "_law_one", "_law_found", "_law_pair", "_law_told", "_law_trees", "_law_other"]
theorem scTrees : FnScope nTrees ["_law_many"] (defScope sTrees) := ⟨rfl, rfl, rfl, by decide +kernel, rfl, by decide +kernel, by decide +kernel⟩
def spTrees (K : PySem.W.Frag) : Sp := fun vs H Q _ => ∃ n : Nat, vs = [.int (n : Int)] ∧ n < 4 ∧ ∀ H' p xs, Same H H' → H' p = some (.lst xs) → DpAll K H' xs ((trees n).map tD) → Q (.ref p) H'
theorem ok_trees (B : Bi mg) (D : Df K mg "_law_all_trees" sTrees ["_law_many"]) (cP : Cal P w K mg base 2 "_law_pieces" (spPieces K)) : Cal P w K mg base 3 "_law_all_trees" (spTrees K) := by
  refine cal_of D scTrees (fun vs H Q E h => ?_) (fun f cdv A outer s H vs Q E hr h => ?_)
  · obtain ⟨n, rfl, _⟩ := h
    rfl
  obtain ⟨n, rfl, h4, q⟩ := h
  refine ⟨_, pss_cons (ps_set (i := 1) scTrees.nd rfl (.inl rfl) (pe_lst pa_nil))
    (pss_cons (ps_for PassesOwn.never rfl (pi_range1 (by rfl) B.range (pa_cons (pe_op op_add (pv 0) pe_int) pa_nil)) (pg_name (i := 2) scTrees.nd rfl (.inr rfl))
      (pss_one (ps_set (i := 1) scTrees.nd rfl (.inl rfl) (pe_op op_cat (pv 1)
        (pe_lc (own := [("_law_other", 7)]) (g := gName 7) (tt := tYes) rfl scTrees.nd (pi_range2 (by rfl) B.range (pa_cons (pe_op op_add (pv 2) pe_int) (pa_cons (pe_op op_add (pv 0) pe_int) pa_nil))) (blkOk_by (N := nTrees) (sc := defScope sTrees) (by decide +kernel))
          (fun _ _ _ _ _ => pg_name (i := 7) scTrees.nd rfl (Or.inl rfl)) (fun _ _ _ _ _ => pts_nil) (fun _ _ _ _ _ => pe_tup (pa_cons (pv 2) (pa_cons (pv 7) pa_nil))))))))
    (pss_cons (ps_set (i := 3) scTrees.nd rfl (.inl rfl) (pe_lst (pa_cons (pe_tup pa_nil) pa_nil)))
    (pss_cons (ps_for PassesOwn.never rfl (pi_list (pv 1)) (pg_name (i := 4) scTrees.nd rfl (.inr rfl))
      (pss_one (ps_set (i := 3) scTrees.nd rfl (.inl rfl) (pe_op op_cat (pv 3)
        (pe_lc (own := [("_law_told", 5)]) (g := gName 5) (tt := tTest (tOp (rI0 fun i j => .bl (decide (i < j))) (tCB (fun xs H Q => ∃ p ys, xs = [.ref p] ∧ (SqL K H p ys ∨ SqT K H p ys) ∧ Q (.int ys.length) H) (tCons (tVar 5) tNil)) (tVar 0)))
          (te := tOp (rCatA K) (tVar 5) (tTup (tCons (tVar 4) tNil))) rfl scTrees.nd (pi_list (pv 3)) (blkOk_by (N := nTrees) (sc := defScope sTrees) (by decide +kernel))
          (fun _ _ _ _ _ => pg_name (i := 5) scTrees.nd rfl (Or.inl rfl)) (fun _ _ _ _ _ => pts_one (pt_cmpR op_lt (pe_callB call_len_seq (by rfl) B.len PySem.boot_len (pa_cons (pv 5) pa_nil)) (pv 0) (nomark _)))
          (fun _ _ _ _ _ => pe_op op_catA (pv 5) (pe_tup (pa_cons (pv 4) pa_nil))))))))
    (pss_cons (ps_set (i := 6) scTrees.nd rfl (.inl rfl) (pe_lst pa_nil))
    (pss_cons (ps_for PassesOwn.never rfl (pi_list (pv 3)) (pg_name (i := 5) scTrees.nd rfl (.inl rfl))
      (pss_one (ps_if (PW.pt (pw_and (pt_cmpR op_eq (pe_callB call_len_seq (by rfl) B.len PySem.boot_len (pa_cons (pv 5) pa_nil)) (pv 0) (nomark _))
          (pw_and1 (pt_cmpR op_eq (pe_callB call_len_seq (by rfl) B.len PySem.boot_len (pa_cons (pc cP hr (by decide) (pa_cons (pv 5) (pa_cons (pe_op op_sub (pe_op op_shl pe_int (pe_op op_add (pv 0) pe_int)) pe_int) pa_nil))) pa_nil)) pe_int (nomark _)))))
        (pss_one (ps_expr (pe_bm PySem.F.plainAttrs_list PySem.F.slot_list_append PySem.F.type_list_append mt_append (pv 6) (pa_cons (pv 5) pa_nil)))) pss_nil)))
    (pss_one (ps_ret (pv 6)))))))), ?_⟩
  -- pairs
  refine ⟨Nat.zero_le _, fun P0 nP0 => ?_⟩
  refine ⟨_, rfl, _, _, rfl, rfl, _, rfl, by omega, by omega, ?_⟩
  rw [show ((n : Int) + 1).toNat = n + 1 by omega]
  refine for_range (lo := 0) (n := n + 1) (fun i σ H' => ∃ p xs s2, σ = [some (.int (n : Int)), some (.ref p), s2, none, none, none, none, none] ∧ Same H H' ∧ H' p = some (.lst xs) ∧ DpAll K H' xs ((pro n i).map pD) ∧ xs.length ≤ 4 * i)
    ⟨P0, [], none, rfl, same_new nP0, upd_same, .nil, Nat.le_refl _⟩ ?_ ?_
  · rintro i σ H1 hi ⟨p, xs, s2, rfl, s1, eP, hP, lP⟩
    refine ⟨_, rfl, _, rfl, _, _, rfl, rfl, _, rfl, _, _, rfl, rfl, _, _, rfl, ⟨by omega, by omega, by omega, by omega⟩, fun C nC => ?_⟩
    rw [show ((n : Int) + 1 - (0 + (i : Int) + 1)).toNat = n - i by omega]
    refine lc_range (lo := 0 + (i : Int) + 1) (n := n - i) (fun j H' => ∃ ys, Same H1 H' ∧ H' C = some (.lst ys) ∧ DpAll K H' ys ((ro i j).map pD)) ⟨[], same_new nC, upd_same, .nil⟩ ?_ ?_
    · rintro j H2 hj ⟨ys, s2', eC, hC⟩
      refine ⟨rfl, _, rfl, _, rfl, (by show 2 ≤ sizeLine; decide), fun T nT => ?_⟩
      have nTC : C ≠ T := ne_of_none eC nT
      have eC' : (upd H2 T (.tup [.int (0 + (i : Int)), .int (0 + (i : Int) + 1 + (j : Int))])) C = some (.lst ys) := by rw [upd_ne nTC]; exact eC
      have ly : ys.length = j := by rw [hC.len, List.length_map, ro_len]
      refine ⟨_, eC', sizeS (by omega), _, same_set (same_add s2' nT) nC, upd_same, ?_⟩
      rw [ro_next, List.map_append]
      refine (hC.sameT ((sameT_new nT).trans (sameT_lst eC')) _ (nl_all nl_p _)).app (.one (mk_p (p := ((i : Int), (i : Int) + 1 + (j : Int))) (.of ?_)))
      rw [upd_ne nTC.symm, upd_same, Int.zero_add]
    · rintro H2 ⟨ys, s2', eC, hC⟩
      have eP2 := s2' _ _ eP
      have ly : ys.length = n - i := by rw [hC.len, List.length_map, ro_len]
      refine ⟨p, C, xs, ys, rfl, rfl, eP2, eC, Nat.le_of_lt (sizeS (by omega)), fun R nR => ?_⟩
      have sR := same_new (o := .lst (xs ++ ys)) nR
      refine ⟨R, xs ++ ys, _, rfl, (s1.trans s2').trans sR, upd_same, ?_, ?_⟩
      · rw [pro_next, List.map_append]
        exact ((hP.same s2' _).same sR _).app (hC.same sR _)
      · rw [List.length_append]
        omega
  rintro σ H1 ⟨p, xs, s2, rfl, s1, eP, hP, lP⟩
  rw [show pro n (n + 1) = prs n from rfl] at hP
  -- found = [()]
  refine ⟨Nat.zero_le _, fun T nT => ⟨(by show 1 ≤ sizeLine; decide), fun F nF => ?_⟩⟩
  have sT := same_new (o := .tup []) nT
  have sF := same_new (o := .lst [.ref T]) nF
  have s3 := (s1.trans sT).trans sF
  have eP3 := sF _ _ (sT _ _ eP)
  have hP3 := (hP.same sT _).same sF _
  have eT3 := sF T _ upd_same
  have eF3 : (upd (upd H1 T (.tup [])) F (.lst [.ref T])) F = some (.lst [.ref T]) := upd_same
  generalize upd (upd H1 T (.tup [])) F (.lst [.ref T]) = H3 at s3 eP3 hP3 eT3 eF3 ⊢
  have lx : xs.length = (prs n).length := by rw [hP3.len, List.length_map]
  have l6 := prs_len h4
  clear s1 eP hP sT sF nT nF
  refine ⟨_, rfl, p, rfl, ⟨_, .of eP3⟩, for_list (K := K) (a := p) (xs := xs) (fun i σ H' => ∃ F fs s2 s4, σ = [some (.int (n : Int)), some (.ref p), s2, some (.ref F), s4, none, none, none] ∧ Same H3 H' ∧ H' F = some (.lst fs) ∧ DpAll K H' fs ((((prs n).take i).foldl (sub1 n) [[]]).map tD))
    ⟨F, [.ref T], _, _, rfl, .refl _, eF3, .one (.tup (.of eT3) .nil)⟩ (fun i σ H' _ ⟨_, _, _, _, _, s', _⟩ => .of (s' _ _ eP3)) ?_ ?_⟩
  · rintro i y σ H4 hi ⟨F, fs, s2', s4, rfl, s4', eF, hF⟩
    obtain ⟨d, hd, hdv⟩ := hP3.get hi
    rw [List.getElem?_map] at hd
    obtain ⟨pr, hpr, rfl⟩ := Option.map_eq_some_iff.mp hd
    obtain ⟨tp, rfl, hTp⟩ := p_tup hdv
    have hTp' : Dp K H4 (.ref tp) (pD pr) := mk_p (same_seqT s4' hTp)
    have hfold : (((prs n).take (i + 1)).foldl (sub1 n) [[]]) = sub1 n (((prs n).take i).foldl (sub1 n) [[]]) pr := by
      rw [take_next' hpr, List.foldl_append]
      rfl
    have h64 := subs_len h4 i
    rw [hfold]
    generalize ((prs n).take i).foldl (sub1 n) [[]] = G at hF h64 ⊢
    have lfs : fs.length = G.length := by rw [hF.len, List.length_map]
    refine ⟨_, rfl, _, rfl, F, rfl, ⟨_, .of eF⟩, fun C nC => lc_list (K := K) (a := F) (xs := fs) (fun j H' => ∃ ys, Same H4 H' ∧ H' C = some (.lst ys) ∧ DpAll K H' ys ((((G.take j).filter fun t => decide (t.length < n)).map fun t => t ++ [pr]).map tD) ∧ ys.length ≤ j)
      ⟨[], same_new nC, upd_same, .nil, Nat.le_refl _⟩ (fun j H' _ ⟨_, s', _⟩ => .of (s' _ _ eF)) ?_ ?_⟩
    · rintro j y H5 hj ⟨ys, s5, eC, hC, lC⟩
      obtain ⟨d, hd, hdv⟩ := hF.get hj
      rw [List.getElem?_map] at hd
      obtain ⟨t, ht, rfl⟩ := Option.map_eq_some_iff.mp hd
      have hjl := (List.getElem?_eq_some_iff.mp ht).1
      obtain ⟨a, zs, rfl, hS, hZ⟩ := (hdv.same s5 _).tupI
      have lz : zs.length = t.length := by rw [hZ.len, List.length_map]
      refine ⟨rfl, ?_⟩
      refine ⟨_, rfl, a, zs, rfl, .inr hS, _, rfl, _, _, rfl, rfl, _, rfl, ?_⟩
      by_cases c : t.length < n
      · rw [decide_eq_true (show ((zs.length : Nat) : Int) < (n : Int) by omega)]
        refine iteT ?_
        have ef : ((((G.take (j + 1)).filter fun t => decide (t.length < n)).map fun t => t ++ [pr]).map tD) = ((((G.take j).filter fun t => decide (t.length < n)).map fun t => t ++ [pr]).map tD) ++ [tD (t ++ [pr])] := by
          rw [take_next' ht, List.filter_append, show ([t].filter fun t => decide (t.length < n)) = [t] by simp [c], List.map_append, List.map_append]
          rfl
        refine ⟨_, rfl, _, rfl, (by show 1 ≤ sizeLine; decide), fun T nT => ?_⟩
        have sT := same_new (o := .tup [.ref tp]) nT
        have hP5 := (hTp'.same s5 _).same sT _
        refine ⟨a, T, zs, [.ref tp], rfl, rfl, same_seqT sT hS, .of upd_same, Nat.le_of_lt (sizeS (by rw [List.length_singleton]; omega)), fun ez => ?_, (fun _ e => nomatch e), fun _ _ R nR => ?_⟩
        · have et : t = [] := by
            rw [ez] at lz
            exact List.length_eq_zero_iff.mp lz.symm
          have eC6 := sT _ _ eC
          refine ⟨ys, eC6, sizeS (by omega), _, same_set (same_add s5 nT) nC, upd_same, ?_, ?_⟩
          · rw [ef]
            have st := sameT_lst (o := .lst (ys ++ [.ref T])) eC6
            refine ((hC.same sT _).sameT st _ (nl_all nl_tD _)).app (.one ?_)
            rw [et]
            exact (Dp.tup (.of upd_same) (.one hP5)).sameT st _ (nl_tD [pr])
          · rw [List.length_append, List.length_singleton]
            omega
        · have sR := same_new (o := .tup (zs ++ [.ref tp])) nR
          have eC6 := sR _ _ (sT _ _ eC)
          refine ⟨ys, eC6, sizeS (by omega), _, same_set (same_add (same_add s5 nT) nR) nC, upd_same, ?_, ?_⟩
          · rw [ef]
            have st := sameT_lst (o := .lst (ys ++ [.ref R])) eC6
            refine (((hC.same sT _).same sR _).sameT st _ (nl_all nl_tD _)).app (.one ?_)
            refine Dp.sameT st (tD (t ++ [pr])) (nl_tD _) (.tup (.of upd_same) ?_)
            rw [List.map_append]
            exact ((hZ.same sT _).same sR _).app (.one (hP5.same sR _))
          · rw [List.length_append, List.length_singleton]
            omega
      · rw [decide_eq_false (show ¬ ((zs.length : Nat) : Int) < (n : Int) by omega)]
        refine iteF ⟨ys, s5, eC, ?_, by omega⟩
        rw [take_next' ht, List.filter_append, show ([t].filter fun t => decide (t.length < n)) = [] by simp [c], List.append_nil]
        exact hC
    · rintro H5 ⟨ys, s5, eC, hC, lC⟩
      rw [lfs, List.take_length] at hC
      have eF5 := s5 _ _ eF
      refine ⟨F, C, fs, ys, rfl, rfl, eF5, eC, Nat.le_of_lt (sizeS (by omega)), fun R nR => ?_⟩
      have sR := same_new (o := .lst (fs ++ ys)) nR
      refine ⟨R, fs ++ ys, _, _, rfl, (s4'.trans s5).trans sR, upd_same, ?_⟩
      unfold sub1
      rw [List.map_append]
      exact ((hF.same s5 _).same sR _).app (hC.same sR _)
  rintro σ H4 ⟨F, fs, s2', s4, rfl, s4', eF, hF⟩
  rw [lx, List.take_length, show (prs n).foldl (sub1 n) [[]] = subs n from rfl] at hF
  have h64 : (subs n).length ≤ 64 := by
    have := subs_len h4 (prs n).length
    rw [List.take_length] at this
    exact this
  have lfs : fs.length = (subs n).length := by rw [hF.len, List.length_map]
  -- trees
  refine ⟨Nat.zero_le _, fun R nR => ?_⟩
  have nFR : F ≠ R := ne_of_none eF nR
  have sR := same_new (o := .lst []) nR
  have s34 := s3.trans s4'
  have nR0 : H R = none := s34.free nR
  refine ⟨_, rfl, F, rfl, ⟨_, .of (sR _ _ eF)⟩, for_list (K := K) (a := F) (xs := fs) (fun i σ H' => ∃ rs s2 s4 s5, σ = [some (.int (n : Int)), some (.ref p), s2, some (.ref F), s4, s5, some (.ref R), none] ∧ Same H H' ∧ H' F = some (.lst fs) ∧ DpAll K H' fs ((subs n).map tD) ∧
      H' R = some (.lst rs) ∧ DpAll K H' rs ((((subs n).take i).filter (SWM.isT n)).map tD) ∧ rs.length ≤ i)
    ⟨[], _, _, _, rfl, same_add s34 nR, sR _ _ eF, hF.same sR _, upd_same, .nil, Nat.le_refl _⟩ (fun i σ H' _ ⟨_, _, _, _, _, _, e, _⟩ => .of e) ?_ ?_⟩
  · clear hF eF nR sR s34 s3 eP3 hP3 s4'
    rintro i y σ H5 hi ⟨rs, s2'', s4'', s5'', rfl, sm, eF, hF, eR, hRs, lR⟩
    obtain ⟨d, hd, hdv⟩ := hF.get hi
    rw [List.getElem?_map] at hd
    obtain ⟨t, ht, rfl⟩ := Option.map_eq_some_iff.mp hd
    have hil := (List.getElem?_eq_some_iff.mp ht).1
    obtain ⟨a, zs, rfl, hS, hZ⟩ := (show Dp K H5 y (.tuple (t.map pD)) from hdv).tupI
    have lz : zs.length = t.length := by rw [hZ.len, List.length_map]
    refine ⟨_, rfl, a, zs, rfl, .inr hS, _, rfl, rfl, _, rfl, ?_⟩
    have no : ∀ H6, Same H5 H6 → SWM.isT n t = false → ∃ rs' s2 s4 s5, [some (V.int (n : Int)), some (.ref p), s2'', some (.ref F), s4'', some (.ref a), some (.ref R), none] = [some (.int (n : Int)), some (.ref p), s2, some (.ref F), s4, s5, some (.ref R), none] ∧ Same H H6 ∧ H6 F = some (.lst fs) ∧ DpAll K H6 fs ((subs n).map tD) ∧
        H6 R = some (.lst rs') ∧ DpAll K H6 rs' ((((subs n).take (i + 1)).filter (SWM.isT n)).map tD) ∧ rs'.length ≤ i + 1 := by
      intro H6 s6 e
      refine ⟨rs, _, _, _, rfl, sm.trans s6, s6 _ _ eF, hF.same s6 _, s6 _ _ eR, ?_, by omega⟩
      rw [take_next' ht, List.filter_append, show ([t].filter (SWM.isT n)) = [] by simp [e], List.append_nil]
      exact hRs.same s6 _
    by_cases c : t.length = n
    · rw [decide_eq_true (show V.int (zs.length : Int) = V.int (n : Int) by rw [lz, c])]
      refine iteT ?_
      refine ⟨_, rfl, _, rfl, _, _, rfl, rfl, 1, (n : Int) + 1, rfl, rfl, ⟨by omega, by omega, by decide⟩, _, _, rfl, rfl, ?_⟩
      refine ⟨.ref a, t, full n, rfl, .tup hS hZ, by omega, fun H6 pa ps s6 ePa hlen => ?_⟩
      refine ⟨pa, ps, rfl, .inl (.of ePa), rfl, _, rfl, ?_⟩
      by_cases c2 : pieces t (grp (full n)).length (grp (full n)) = 1
      · have hT : SWM.isT n t = true := by
          unfold SWM.isT
          rw [decide_eq_true c, decide_eq_true c2]
          rfl
        rw [decide_eq_true (show V.int (ps.length : Int) = V.int 1 by rw [hlen, c2]; rfl)]
        refine iteT ?_
        have eR6 := s6 _ _ eR
        refine ⟨_, rfl, .inl ⟨rfl, _, .of eR6⟩, _, rfl, R, rs, _, rfl, rfl, eR6, sizeS (by omega), ?_⟩
        have st := sameT_lst (o := .lst (rs ++ [.ref a])) eR6
        refine ⟨rs ++ [.ref a], _, _, _, rfl, same_set (sm.trans s6) nR0, ?_, (hF.same s6 _).sameT st _ (nl_all nl_tD _), upd_same, ?_, ?_⟩
        · rw [upd_ne nFR]
          exact s6 _ _ eF
        · rw [take_next' ht, List.filter_append, show ([t].filter (SWM.isT n)) = [t] by simp [hT], List.map_append]
          exact ((hRs.same s6 _).sameT st _ (nl_all nl_tD _)).app (.one (Dp.sameT st _ (nl_tD t) (.tup (same_seqT s6 hS) (hZ.same s6 _))))
        · rw [List.length_append, List.length_singleton]
          omega
      · have hT : SWM.isT n t = false := by
          unfold SWM.isT
          rw [decide_eq_false c2, Bool.and_false]
        rw [decide_eq_false (show ¬ V.int (ps.length : Int) = V.int 1 from fun z => c2 (by
          have := V.int.inj z
          omega))]
        exact iteF (no H6 s6 hT)
    · have hT : SWM.isT n t = false := by
        unfold SWM.isT
        rw [decide_eq_false c, Bool.false_and]
      rw [decide_eq_false (show ¬ V.int (zs.length : Int) = V.int (n : Int) from fun z => c (by
        have := V.int.inj z
        omega))]
      exact iteF (iteF (no H5 (.refl _) hT))
  · rintro σ H5 ⟨rs, s2'', s4'', s5'', rfl, sm, eF, hF, eR, hRs, lR⟩
    rw [lfs, List.take_length] at hRs
    exact ⟨_, rfl, q H5 R rs sm eR hRs⟩
end
end SW
/-! B16: the odd values, as data. -/
namespace SW
open PySem PySem.Spec PyProof.Rows L2 SW0 SWM
theorem alk_int {n : Nat} (a b : Int) : alk (n + 1) (.int a) (.int b) = decide (a = b) := rfl
theorem alk_pair {n : Nat} (p q : Int × Int) : alk (n + 2) (pD p) (pD q) = decide (p = q) := by
  show (decide (2 = 2) && (List.range 2).all fun i => alk (n + 1) ([PyData.int p.1, PyData.int p.2].getD i .none) ([PyData.int q.1, PyData.int q.2].getD i .none)) = _
  have e : (List.range 2) = [0, 1] := rfl
  rw [e]
  show (decide (2 = 2) && (decide (p.1 = q.1) && (decide (p.2 = q.2) && true))) = _
  obtain ⟨a, b⟩ := p
  obtain ⟨c, d⟩ := q
  by_cases h1 : a = c <;> by_cases h2 : b = d <;> simp [h1, h2]
theorem all_range {n : Nat} {p : Nat → Bool} {i : Nat} (h : i < n) (hp : p i = false) : (List.range n).all p = false := by
  cases e : (List.range n).all p with
  | false => rfl
  | true =>
    have := List.all_eq_true.mp e i (List.mem_range.mpr h)
    rw [hp] at this
    cases this
theorem getD_map {t : List (Int × Int)} {i : Nat} (h : i < t.length) : (t.map pD).getD i .none = pD t[i] := by
  rw [List.getD_eq_getElem?_getD, List.getElem?_map, List.getElem?_eq_getElem h]
  rfl
theorem alk_pairs {n : Nat} (t u : List (Int × Int)) : alk (n + 3) (tD t) (tD u) = decide (t = u) := by
  show (decide ((t.map pD).length = (u.map pD).length) && (List.range (u.map pD).length).all fun i => alk (n + 2) ((t.map pD).getD i .none) ((u.map pD).getD i .none)) = _
  rw [List.length_map, List.length_map]
  by_cases c : t.length = u.length
  · rw [decide_eq_true c, Bool.true_and]
    by_cases d : t = u
    · subst d
      rw [decide_eq_true rfl, List.all_eq_true]
      intro i hi
      rw [List.mem_range] at hi
      rw [getD_map hi, alk_pair, decide_eq_true rfl]
    · rw [decide_eq_false d]
      have : ∃ i, ∃ (h1 : i < t.length) (h2 : i < u.length), t[i] ≠ u[i] := by
        refine Classical.byContradiction fun z => d (List.ext_getElem c fun i h1 h2 => ?_)
        refine Classical.byContradiction fun y => z ⟨i, h1, h2, y⟩
      obtain ⟨i, h1, h2, hne⟩ := this
      exact all_range h2 (by rw [getD_map h1, getD_map h2, alk_pair, decide_eq_false hne])
  · rw [decide_eq_false c, Bool.false_and, decide_eq_false (fun z => c (by rw [z]))]
theorem alk_len {n : Nat} {ds es : List PyData} (h : ds.length ≠ es.length) : alk (n + 1) (.tuple ds) (.tuple es) = false := by
  show (decide (ds.length = es.length) && _) = false
  rw [decide_eq_false h, Bool.false_and]
theorem alk_at {n : Nat} {ds es : List PyData} {i : Nat} (h : i < es.length) (e : alk n (ds.getD i .none) (es.getD i .none) = false) : alk (n + 1) (.tuple ds) (.tuple es) = false := by
  show (decide (ds.length = es.length) && (List.range es.length).all _) = false
  rw [all_range h e, Bool.and_false]
theorem lvl_t {t : List (Int × Int)} (h : t.length ≤ 1000) : lvl 3 (tD t) := by
  refine ⟨by rw [List.length_map]; exact h, fun e he => ?_⟩
  obtain ⟨p, _, rfl⟩ := List.mem_map.mp he
  refine ⟨by show 2 ≤ 1000; decide, fun z hz => ?_⟩
  rcases List.mem_cons.mp hz with rfl | hz
  · exact True.intro
  · rw [List.mem_singleton.mp hz]
    exact True.intro
/-- what an odd value is -/
def OdD (ws : Ws) (d : PyData) : Prop := (isT d = false ∧ alk 3 d (tD (star ws.length)) = false) ∨
  ∃ ds, d = .tuple ds ∧ (chk1 ws.length ds = true → LeafOk ds) ∧ (chk1 ws.length ds = true → chk2 ws.length ds = true → chk3 (ds.map asP) = true → SpP ws.length (ds.map asP)) ∧ isM ws ds = (alk 3 d (tD (star ws.length)) && decide (psum ws (star ws.length) = due ws))
theorem od_not {ws : Ws} {d : PyData} (h : isT d = false) : OdD ws d := .inl ⟨h, alk_notT h⟩
/-- refused, and unlike the star -/
theorem od_bad {ws : Ws} {ds : List PyData} (hl : chk1 ws.length ds = true → LeafOk ds) (h : (chk1 ws.length ds && chk2 ws.length ds && chk3 (ds.map asP)) = false) (a : alk 3 (.tuple ds) (tD (star ws.length)) = false) : OdD ws (.tuple ds) := by
  refine .inr ⟨ds, rfl, hl, fun h1 h2 h3 => ?_, ?_⟩
  · rw [h1, h2, h3] at h
    cases h
  · unfold isM
    rw [h, a]
    rfl
theorem od_len {ws : Ws} {ds : List PyData} (h : ds.length ≠ ws.length) : OdD ws (.tuple ds) := by
  have c : chk1 ws.length ds = false := by
    unfold chk1
    rw [decide_eq_false h, Bool.false_and]
  refine od_bad (fun z => by rw [c] at z; cases z) (by rw [c]; rfl) (alk_len ?_)
  rw [List.length_map, star_len]
  exact h
theorem chk_ok {n : Nat} {t : List (Int × Int)} (o : TreeOk n t) : chk3 t = true := by
  unfold chk3
  rw [decide_eq_true o.asc, Bool.and_true, List.all_eq_true]
  exact fun p hp => decide_eq_true (o.rng p hp).2.1
theorem chk2_ok {n : Nat} {t : List (Int × Int)} (o : TreeOk n t) : chk2 n (t.map pD) = true := chk2_pD fun p hp => by
  have := o.rng p hp
  exact ⟨⟨by omega, by omega⟩, ⟨by omega, by omega⟩⟩
/-- pairs that one of the checks refuses -/
theorem od_pairs {ws : Ws} {u : List (Int × Int)} (h : (chk2 ws.length (u.map pD) && chk3 u) = false) : OdD ws (tD u) := by
  refine od_bad (fun _ => leaf_pD u) ?_ ?_
  · rw [asP_pD, Bool.and_assoc, h, Bool.and_false]
  · show alk 3 (tD u) (tD (star ws.length)) = false
    rw [alk_pairs, decide_eq_false_iff_not]
    intro e
    rw [e, chk2_ok (star_ok _), chk_ok (star_ok _)] at h
    cases h
theorem od_star (ws : Ws) : OdD ws (tD (star ws.length)) := by
  refine .inr ⟨_, rfl, fun _ => leaf_pD _, fun _ _ _ => by rw [asP_pD]; exact (star_ok _).sp, ?_⟩
  rw [isM_ok (star_ok _), alk_pairs, decide_eq_true rfl, Bool.true_and]
/-- the tree the other way round -/
theorem od_rev {ws : Ws} (g : Good ws) (h : 1 < ws.length) : OdD ws (tD (tr ws).reverse) := by
  refine od_pairs ?_
  have : chk3 (tr ws).reverse = false := by
    unfold chk3
    rw [Bool.and_eq_false_iff]
    right
    rw [decide_eq_false_iff_not]
    intro z
    have a := tr_asc g
    have l := tr_len g
    rw [List.pairwise_reverse] at z
    match ht : tr ws, l with
    | [], l => simp at l; omega
    | [_], l => simp at l; omega
    | p :: q :: r, _ =>
      rw [ht] at a z
      have h1 := (List.pairwise_cons.mp a).1 q List.mem_cons_self
      have h2 := (List.pairwise_cons.mp z).1 q List.mem_cons_self
      omega
  rw [this, Bool.and_false]
/-- a pair put in place of one -/
def putP (t : List (Int × Int)) (i : Nat) (p : Int × Int) : List (Int × Int) := t.take i ++ [p] ++ t.drop (i + 1)
theorem od_turned {ws : Ws} (g : Good ws) {i : Nat} (h : i < (tr ws).length) : OdD ws (tD (putP (tr ws) i ((tr ws)[i].2, (tr ws)[i].1))) := by
  refine od_pairs ?_
  have hp := mem_tr g (List.getElem_mem h)
  have : chk3 (putP (tr ws) i ((tr ws)[i].2, (tr ws)[i].1)) = false := by
    unfold chk3
    rw [Bool.and_eq_false_iff]
    left
    cases e : (putP (tr ws) i ((tr ws)[i].2, (tr ws)[i].1)).all (fun p => decide (p.1 < p.2)) with
    | false => rfl
    | true =>
      have m : ((tr ws)[i].2, (tr ws)[i].1) ∈ putP (tr ws) i ((tr ws)[i].2, (tr ws)[i].1) := List.mem_append_left _ (List.mem_append_right _ (List.mem_singleton.mpr rfl))
      have := of_decide_eq_true (List.all_eq_true.mp e _ m)
      simp only at this
      omega
  rw [this, Bool.and_false]
theorem chk2_app {n : Nat} {ds es : List PyData} (h : chk2 n es = false) : chk2 n (ds ++ es) = false := by
  unfold chk2 at h ⊢
  rw [List.flatMap_append, List.map_append, List.all_append, h, Bool.and_false]
theorem chk2_app' {n : Nat} {ds es : List PyData} (h : chk2 n ds = false) : chk2 n (ds ++ es) = false := by
  unfold chk2 at h ⊢
  rw [List.flatMap_append, List.map_append, List.all_append, h, Bool.false_and]
theorem od_far {ws : Ws} {t : List (Int × Int)} {i : Nat} : OdD ws (tD (putP t i ((ws.length : Int) + 1, (ws.length : Int) + 2))) := by
  refine od_pairs ?_
  have : chk2 ws.length ((putP t i ((ws.length : Int) + 1, (ws.length : Int) + 2)).map pD) = false := by
    unfold putP
    rw [List.map_append, List.map_append]
    refine chk2_app' (chk2_app ?_)
    unfold chk2
    have : inB ws.length (.int ((ws.length : Int) + 1)) = false := by
      unfold inB
      rw [Bool.and_eq_false_iff]
      right
      rw [decide_eq_false_iff_not]
      omega
    simp [pD, lv, this]
  rw [this, Bool.false_and]
/-- something else put in place of a pair -/
def putD (t : List (Int × Int)) (i : Nat) (d : PyData) : List PyData := (t.take i).map pD ++ [d] ++ (t.drop (i + 1)).map pD
theorem putD_at {t : List (Int × Int)} {i : Nat} (h : i < t.length) (d : PyData) : (putD t i d).getD i .none = d := by
  unfold putD
  have l : ((t.take i).map pD).length = i := by rw [List.length_map, List.length_take]; omega
  rw [List.getD_eq_getElem?_getD, List.append_assoc, List.getElem?_append_right (by omega), l, Nat.sub_self]
  rfl
theorem od_list {ws : Ws} {t : List (Int × Int)} {i : Nat} (h : i < t.length) (hn : i < ws.length) (es : List PyData) : OdD ws (.tuple (putD t i (.list es))) := by
  have c : chk1 ws.length (putD t i (.list es)) = false := by
    unfold chk1
    rw [Bool.and_eq_false_iff]
    right
    unfold putD
    rw [List.all_append, List.all_append]
    simp [two]
  refine od_bad (fun z => by rw [c] at z; cases z) (by rw [c]; rfl) (alk_at (i := i) ?_ ?_)
  · rw [List.length_map, star_len]
    exact hn
  · rw [putD_at h, getD_map (by rw [star_len]; exact hn)]
    rfl
theorem od_true {ws : Ws} {t : List (Int × Int)} {i : Nat} (h : i < t.length) (hn : i < ws.length) : OdD ws (.tuple (putD t i (.tuple [.int 0, .bool true]))) := by
  have c : chk2 ws.length (putD t i (.tuple [.int 0, .bool true])) = false := by
    unfold putD
    refine chk2_app' (chk2_app ?_)
    unfold chk2
    simp [lv, inB]
  refine od_bad (fun _ => ?_) (by rw [c, Bool.and_false]; rfl) (alk_at (i := i) ?_ ?_)
  · intro d hd e he
    unfold putD at hd
    rcases List.mem_append.mp hd with hd | hd
    · rcases List.mem_append.mp hd with hd | hd
      · exact leaf_pD _ d hd e he
      · rw [List.mem_singleton.mp hd] at he
        simp [lv] at he
        rcases he with rfl | rfl
        · exact .inl ⟨_, rfl⟩
        · exact .inr ⟨_, rfl⟩
    · exact leaf_pD _ d hd e he
  · rw [List.length_map, star_len]
    exact hn
  · rw [putD_at h, getD_map (by rw [star_len]; exact hn)]
    refine alk_at (i := 1) (by show 1 < 2; decide) rfl
theorem od_nones {ws : Ws} (h : 1 ≤ ws.length) : OdD ws (.tuple (List.replicate ws.length .none)) := by
  have c : chk1 ws.length (List.replicate ws.length .none) = false := by
    unfold chk1
    rw [Bool.and_eq_false_iff]
    right
    cases e : (List.replicate ws.length PyData.none).all two with
    | false => rfl
    | true =>
      have := List.all_eq_true.mp e .none (List.mem_replicate.mpr ⟨by omega, rfl⟩)
      cases this
  refine od_bad (fun z => by rw [c] at z; cases z) (by rw [c]; rfl) (alk_at (i := 0) ?_ ?_)
  · rw [List.length_map, star_len]
    omega
  · rw [getD_map (by rw [star_len]; omega), show (List.replicate ws.length PyData.none).getD 0 .none = .none by
      rw [List.getD_eq_getElem?_getD, List.getElem?_replicate, if_pos (by omega)]
      rfl]
    rfl
end SW
/-! B17: expressions that give data, while the draws' row stands. -/
namespace SW
open PySem PySem.Spec PyProof.Rows L2 SW0 SWM
mutual
/-- data whose lists are not the row at r -/
inductive Dx (K : PySem.W.Frag) (r : Addr) (H : Hp) : V → PyData → Prop
  | non : Dx K r H .non .none
  | bl (b : Bool) : Dx K r H (.bl b) (.bool b)
  | int (i : Int) : Dx K r H (.int i) (.int i)
  | lst {a : Addr} {xs : List V} {ds : List PyData} : a ≠ r → H a = some (.lst xs) → DxAll K r H xs ds → Dx K r H (.ref a) (.list ds)
  | tup {a : Addr} {xs : List V} {ds : List PyData} : SqT K H a xs → DxAll K r H xs ds → Dx K r H (.ref a) (.tuple ds)
inductive DxAll (K : PySem.W.Frag) (r : Addr) (H : Hp) : List V → List PyData → Prop
  | nil : DxAll K r H [] []
  | cons {v : V} {vs : List V} {d : PyData} {ds : List PyData} : Dx K r H v d → DxAll K r H vs ds → DxAll K r H (v :: vs) (d :: ds)
end
section
variable {K : PySem.W.Frag} {r : Addr} {H H' : Hp}
mutual
theorem Dx.keep (s : SameX r H H') (st : SameT H H') : ∀ (d : PyData) {v : V}, Dx K r H v d → Dx K r H' v d
  | .none, _, h => by cases h; exact .non
  | .bool b, _, h => by cases h; exact .bl b
  | .int i, _, h => by cases h; exact .int i
  | .str x, _, h => by cases h
  | .list ds, _, h => by
    cases h with
    | lst n e ha => exact .lst n (s _ _ n e) (DxAll.keep s st ds ha)
  | .tuple ds, _, h => by
    cases h with
    | tup hs ha => exact .tup (sameT_seqT st hs) (DxAll.keep s st ds ha)
  | .dict _, _, h => by cases h
theorem DxAll.keep (s : SameX r H H') (st : SameT H H') : ∀ (ds : List PyData) {vs : List V}, DxAll K r H vs ds → DxAll K r H' vs ds
  | [], _, h => by cases h; exact .nil
  | d :: ds, _, h => by
    cases h with
    | cons h1 h2 => exact .cons (Dx.keep s st d h1) (DxAll.keep s st ds h2)
end
mutual
theorem Dx.dp : ∀ (d : PyData) {v : V}, Dx K r H v d → Dp K H v d
  | .none, _, h => by cases h; exact .non
  | .bool b, _, h => by cases h; exact .bl b
  | .int i, _, h => by cases h; exact .int i
  | .str x, _, h => by cases h
  | .list ds, _, h => by
    cases h with
    | lst n e ha => exact .lst (.of e) (DxAll.dp ds ha)
  | .tuple ds, _, h => by
    cases h with
    | tup hs ha => exact .tup hs (DxAll.dp ds ha)
  | .dict _, _, h => by cases h
theorem DxAll.dp : ∀ (ds : List PyData) {vs : List V}, DxAll K r H vs ds → DpAll K H vs ds
  | [], _, h => by cases h; exact .nil
  | d :: ds, _, h => by
    cases h with
    | cons h1 h2 => exact .cons (Dx.dp d h1) (DxAll.dp ds h2)
end
theorem Dx.same (s : Same H H') {d : PyData} {v : V} (h : Dx K r H v d) : Dx K r H' v d := h.keep (sameX_of s) (same_T s) d
theorem DxAll.same (s : Same H H') {ds : List PyData} {vs : List V} (h : DxAll K r H vs ds) : DxAll K r H' vs ds := h.keep (sameX_of s) (same_T s) ds
theorem dx_p {v : V} {p : Int × Int} (h : Dp K H v (pD p)) : Dx K r H v (pD p) := by
  obtain ⟨t, rfl, hs⟩ := p_tup h
  exact .tup hs (.cons (.int _) (.cons (.int _) .nil))
theorem dx_ps : ∀ {vs : List V} {t : List (Int × Int)}, DpAll K H vs (t.map pD) → DxAll K r H vs (t.map pD)
  | _, [], h => by cases h; exact .nil
  | _, p :: t, h => by
    cases h with
    | cons h1 h2 => exact .cons (dx_p h1) (dx_ps h2)
theorem DxAll.len : ∀ {vs : List V} {ds : List PyData}, DxAll K r H vs ds → vs.length = ds.length
  | _, _, .nil => rfl
  | _, _, .cons _ h => congrArg (· + 1) (DxAll.len h)
theorem DxAll.app : ∀ {vs us : List V} {ds es : List PyData}, DxAll K r H vs ds → DxAll K r H us es → DxAll K r H (vs ++ us) (ds ++ es)
  | _, _, _, _, .nil, h => h
  | _, _, _, _, .cons h t, q => .cons h (DxAll.app t q)
theorem DxAll.drop : ∀ {vs : List V} {ds : List PyData} (n : Nat), DxAll K r H vs ds → DxAll K r H (vs.drop n) (ds.drop n)
  | _, _, 0, h => h
  | _, _, _ + 1, .nil => .nil
  | _, _, n + 1, .cons _ t => DxAll.drop n t
theorem DxAll.take : ∀ {vs : List V} {ds : List PyData} (n : Nat), DxAll K r H vs ds → DxAll K r H (vs.take n) (ds.take n)
  | _, _, 0, _ => .nil
  | _, _, _ + 1, .nil => .nil
  | _, _, n + 1, .cons h t => .cons h (DxAll.take n t)
theorem DxAll.rev : ∀ {vs : List V} {ds : List PyData}, DxAll K r H vs ds → DxAll K r H vs.reverse ds.reverse
  | _, _, .nil => .nil
  | _, _, .cons h t => by
    rw [List.reverse_cons, List.reverse_cons]
    exact (DxAll.rev t).app (.cons h .nil)
theorem Dx.tupI {v : V} {ds : List PyData} (h : Dx K r H v (.tuple ds)) : ∃ a xs, v = .ref a ∧ SqT K H a xs ∧ DxAll K r H xs ds := by
  cases h with
  | tup hs ha => exact ⟨_, _, rfl, hs, ha⟩
theorem dx_reps : ∀ n : Nat, DxAll K r H (List.replicate n V.non) (List.replicate n PyData.none)
  | 0 => .nil
  | n + 1 => .cons .non (dx_reps n)
end
/-- the row, and the tree -/
structure Bs (K : PySem.W.Frag) (r sc : Addr) (ns : List Int) (tv : V) (t : List (Int × Int)) (H : Hp) : Prop where
  row : RowAt K H r sc ns
  tree : Dp K H tv (tD t)
theorem Bs.same {K : PySem.W.Frag} {r sc : Addr} {ns : List Int} {tv : V} {t : List (Int × Int)} {H H' : Hp} (b : Bs K r sc ns tv t H) (s : Same H H') : Bs K r sc ns tv t H' := ⟨b.row.same s, b.tree.same s _⟩
/-- the expression gives the data d -/
def GD (K : PySem.W.Frag) (r sc : Addr) (ns : List Int) (tv : V) (t : List (Int × Int)) (σ : L2.St) (te : TE) (d : PyData) : Prop :=
  ∀ (H : Hp) (Q : VK), Bs K r sc ns tv t H → (∀ v H', Same H H' → Dx K r H' v d → Q v H') → te σ H Q
def cutD (ds : List PyData) (lo hi : Option Int) : List PyData := (ds.drop (HT.sIx ds.length 0 lo)).take (HT.sIx ds.length ds.length hi - HT.sIx ds.length 0 lo)
section
variable {K : PySem.W.Frag} {r sc : Addr} {ns : List Int} {tv : V} {t : List (Int × Int)} {σ : L2.St}
theorem gd_none : GD K r sc ns tv t σ (tC .non) .none := fun H Q b k => k _ H (.refl H) .non
theorem gd_int (i : Int) : GD K r sc ns tv t σ (tC (.int i)) (.int i) := fun H Q b k => k _ H (.refl H) (.int i)
theorem gd_bool (i : Bool) : GD K r sc ns tv t σ (tC (.bl i)) (.bool i) := fun H Q b k => k _ H (.refl H) (.bl i)
theorem gd_var (h : σ[6]? = some (some tv)) : GD K r sc ns tv t σ (tVar 6) (tD t) := fun H Q b k => by
  refine ⟨tv, h, k _ H (.refl H) ?_⟩
  obtain ⟨a, xs, e, hs, ha⟩ := b.tree.tupI
  rw [e]
  exact .tup hs (dx_ps ha)
theorem gd_ix (h : σ[6]? = some (some tv)) {i : Nat} (hi : σ[9]? = some (some (.int (i : Int)))) (hl : i < t.length) : GD K r sc ns tv t σ (tOp (rIxT K) (tVar 6) (tVar 9)) (pD t[i]) := fun H Q b k => by
  obtain ⟨a, xs, e, hs, ha⟩ := b.tree.tupI
  obtain ⟨v, hv, hd⟩ := ha.at (i := i) (d := pD t[i]) (by rw [List.getElem?_map, List.getElem?_eq_getElem hl]; rfl)
  exact ⟨tv, h, _, hi, a, xs, _, v, e, rfl, hs, atI_nat hv, k v H (.refl H) (dx_p hd)⟩
theorem gd_slice {te : TE} {ds : List PyData} {tl th : L2.TO} {lo hi : Option Int} (g : GD K r sc ns tv t σ te (.tuple ds)) (hl : ∀ H (Q : Option Int → Hp → Prop), Q lo H → tl σ H Q) (hh : ∀ H (Q : Option Int → Hp → Prop), Q hi H → th σ H Q) :
    GD K r sc ns tv t σ (tSl (rSlA K) te tl th) (.tuple (cutD ds lo hi)) := fun H Q b k => by
  refine g H _ b fun v H1 s1 hd => ?_
  obtain ⟨a, xs, rfl, hs, ha⟩ := hd.tupI
  have l := ha.len
  refine hl H1 _ (hh H1 _ ⟨a, xs, rfl, hs, fun w => ?_, fun _ p np => ?_⟩)
  · rw [l] at w
    refine k _ H1 s1 ?_
    have e : cutD ds lo hi = ds := by
      unfold cutD
      rw [w.1, w.2, List.drop_zero, Nat.sub_zero, List.take_length]
    rw [e]
    exact .tup hs ha
  · have sp := same_new (o := .tup (cutV xs lo hi)) np
    refine k _ _ (s1.trans sp) (.tup (.of upd_same) ?_)
    have h := ((ha.same sp).drop (HT.sIx xs.length 0 lo)).take (HT.sIx xs.length xs.length hi - HT.sIx xs.length 0 lo)
    have e2 : cutD ds lo hi = (ds.drop (HT.sIx xs.length 0 lo)).take (HT.sIx xs.length xs.length hi - HT.sIx xs.length 0 lo) := by
      unfold cutD
      rw [l]
    rw [e2]
    exact h
theorem gd_cat {ta tb : TE} {ds es : List PyData} (ga : GD K r sc ns tv t σ ta (.tuple ds)) (gb : GD K r sc ns tv t σ tb (.tuple es)) (hz : ds.length + es.length ≤ 4000) : GD K r sc ns tv t σ (tOp (rCatA K) ta tb) (.tuple (ds ++ es)) := fun H Q b k => by
  refine ga H _ b fun v1 H1 s1 d1 => gb H1 _ (b.same s1) fun v2 H2 s2 d2 => ?_
  obtain ⟨a, xs, rfl, hs, ha⟩ := (d1.same s2).tupI
  obtain ⟨c, ys, rfl, hs2, ha2⟩ := d2.tupI
  have l1 := ha.len
  have l2 := ha2.len
  have s12 := s1.trans s2
  refine ⟨a, c, xs, ys, rfl, rfl, hs, hs2, Nat.le_of_lt (sizeS (by omega)), fun ex => ?_, fun _ ey => ?_, fun _ _ p np => ?_⟩
  · have e : ds = [] := by
      rw [ex] at l1
      exact List.length_eq_zero_iff.mp l1.symm
    rw [e, List.nil_append] at k
    exact k _ H2 s12 (.tup hs2 ha2)
  · have e : es = [] := by
      rw [ey] at l2
      exact List.length_eq_zero_iff.mp l2.symm
    rw [e, List.append_nil] at k
    exact k _ H2 s12 (.tup hs ha)
  · have sp := same_new (o := .tup (xs ++ ys)) np
    exact k _ _ (s12.trans sp) (.tup (.of upd_same) ((ha.same sp).app (ha2.same sp)))
theorem gd_list {te : TE} {ds : List PyData} (g : GD K r sc ns tv t σ te (.tuple ds)) : GD K r sc ns tv t σ (tCB (fun xs H Q => ∃ p ys, xs = [.ref p] ∧ (SqL K H p ys ∨ SqT K H p ys) ∧ ∀ l, H l = none → Q (.ref l) (upd H l (.lst ys))) (tCons te tNil)) (.list ds) := fun H Q b k => by
  refine g H _ b fun v H1 s1 hd => ?_
  obtain ⟨a, xs, rfl, hs, ha⟩ := hd.tupI
  refine ⟨a, xs, rfl, .inr hs, fun l nl => ?_⟩
  have sp := same_new (o := .lst xs) nl
  exact k _ _ (s1.trans sp) (.lst ((b.same s1).row.ne nl) upd_same (ha.same sp))
theorem gd_rev {te : TE} {ds : List PyData} (g : GD K r sc ns tv t σ te (.tuple ds)) : GD K r sc ns tv t σ (tRevT K te) (.tuple ds.reverse) := fun H Q b k => by
  refine g H _ b fun v H1 s1 hd => ?_
  obtain ⟨a, xs, rfl, hs, ha⟩ := hd.tupI
  refine ⟨a, xs, rfl, hs, fun p np => ?_⟩
  have sp := same_new (o := .tup xs.reverse) np
  exact k _ _ (s1.trans sp) (.tup (.of upd_same) (ha.same sp).rev)
theorem gd_nil : GD K r sc ns tv t σ (tTup tNil) (.tuple []) := fun H Q b k => by
  refine ⟨Nat.zero_le _, fun p np => ?_⟩
  exact k _ _ (same_new np) (.tup (.of upd_same) .nil)
theorem gd_one {te : TE} {d : PyData} (g : GD K r sc ns tv t σ te d) : GD K r sc ns tv t σ (tTup (tCons te tNil)) (.tuple [d]) := fun H Q b k => by
  refine g H _ b fun v H1 s1 hd => ⟨(by show 1 ≤ sizeLine; decide), fun p np => ?_⟩
  have sp := same_new (o := .tup [v]) np
  exact k _ _ (s1.trans sp) (.tup (.of upd_same) (.cons (hd.same sp) .nil))
theorem gd_two {ta tb : TE} {d e : PyData} (ga : GD K r sc ns tv t σ ta d) (gb : GD K r sc ns tv t σ tb e) : GD K r sc ns tv t σ (tTup (tCons ta (tCons tb tNil))) (.tuple [d, e]) := fun H Q b k => by
  refine ga H _ b fun v H1 s1 hd => gb H1 _ (b.same s1) fun u H2 s2 he => ⟨(by show 2 ≤ sizeLine; decide), fun p np => ?_⟩
  have sp := same_new (o := .tup [v, u]) np
  exact k _ _ ((s1.trans s2).trans sp) (.tup (.of upd_same) (.cons ((hd.same s2).same sp) (.cons (he.same sp) .nil)))
theorem gd_add {n : Nat} (h : σ[3]? = some (some (.int (n : Int)))) (i : Int) : GD K r sc ns tv t σ (tOp (rI0 fun i j => .int (i + j)) (tVar 3) (tC (.int i))) (.int ((n : Int) + i)) := fun H Q b k =>
  ⟨_, h, _, _, rfl, rfl, k _ H (.refl H) (.int _)⟩
theorem gd_rep {n : Nat} (h : σ[3]? = some (some (.int (n : Int)))) (h1 : 1 ≤ n) (h6 : n ≤ 6) : GD K r sc ns tv t σ (tOp (fun x y H Q => rOnce K x y H Q ∨ rRepT K x y H Q) (tTup (tCons (tC .non) tNil)) (tVar 3)) (.tuple (List.replicate n .none)) := fun H Q b k => by
  refine ⟨(by show 1 ≤ sizeLine; decide), fun p np => ⟨_, h, ?_⟩⟩
  have sp := same_new (o := .tup [.non]) np
  by_cases c : n = 1
  · subst c
    exact .inl ⟨p, [.non], rfl, rfl, .of upd_same, k _ _ sp (.tup (.of upd_same) (.cons .non .nil))⟩
  · refine .inr ⟨p, (n : Int), [.non], rfl, rfl, .of upd_same, (by intro z; cases z), by omega, by omega, (by show 1 ≤ 1000; decide), fun p2 np2 => ?_⟩
    have sp2 := same_new (o := .tup (List.replicate ((n : Int)).toNat [V.non]).flatten) np2
    refine k _ _ (sp.trans sp2) (.tup (.of upd_same) ?_)
    have e : (List.replicate ((n : Int)).toNat [V.non]).flatten = List.replicate n V.non := by
      rw [Int.toNat_natCast]
      induction n with
      | zero => rfl
      | succ n ih => simp [List.replicate_succ]
    rw [e]
    exact dx_reps n
end
/-- an odd value -/
def OdV (K : PySem.W.Frag) (r : Addr) (ws : Ws) (H : Hp) (v : V) : Prop := ∃ d, (Dx K r H v d ∨ ∃ a, v = .ref a ∧ H a = some (.dK []) ∧ d = .dict []) ∧ OdD ws d
theorem OdV.same {K : PySem.W.Frag} {r : Addr} {ws : Ws} {H H' : Hp} {v : V} (h : OdV K r ws H v) (s : Same H H') : OdV K r ws H' v := by
  obtain ⟨d, h | ⟨a, e, h, r⟩, o⟩ := h
  · exact ⟨d, .inl (h.same s), o⟩
  · exact ⟨d, .inr ⟨a, e, s _ _ h, r⟩, o⟩
theorem OdV.keep {K : PySem.W.Frag} {r : Addr} {ws : Ws} {H H' : Hp} {v : V} {xs : List V} (h : OdV K r ws H v) (er : H r = some (.lst xs)) (s : SameX r H H') : ∃ d, Fd K H' v d ∧ OdD ws d := by
  obtain ⟨d, h | ⟨a, e, h, e2⟩, o⟩ := h
  · exact ⟨d, .inl (h.keep s (sameX_T s er) d).dp, o⟩
  · exact ⟨d, .inr ⟨a, e, s _ _ (ne_of h er (by intro z; cases z)) h, e2⟩, o⟩
theorem od_known {K : PySem.W.Frag} {ws : Ws} {H : Hp} {v : V} {d : PyData} (h : Fd K H v d) (o : OdD ws d) : KnownS K H v ws (alk 3 d (tD (star ws.length)) && decide (psum ws (star ws.length) = due ws)) := by
  rcases o with ⟨o, a⟩ | ⟨ds, rfl, h1, h2, h3⟩
  · refine .inl ⟨fun H' s => ?_, by rw [a, Bool.false_and]⟩
    have := (h.same s).ty
    refine ⟨_, this, ?_⟩
    rw [kT, o]
  · rcases h with h | ⟨_, _, _, e⟩
    · exact .inr ⟨ds, h, h1, h2, h3.symm⟩
    · cases e
/-- the expression gives an odd value -/
def GV (K : PySem.W.Frag) (r sc : Addr) (ns : List Int) (tv : V) (t : List (Int × Int)) (ws : Ws) (σ : L2.St) (te : TE) : Prop :=
  ∀ (H : Hp) (Q : VK), Bs K r sc ns tv t H → (∀ v H', Same H H' → OdV K r ws H' v → Q v H') → te σ H Q
def GA (K : PySem.W.Frag) (r sc : Addr) (ns : List Int) (tv : V) (t : List (Int × Int)) (ws : Ws) (σ : L2.St) (ta : TA) (n : Nat) : Prop :=
  ∀ (H : Hp) (Q : List V → Hp → Prop), Bs K r sc ns tv t H → (∀ vs H', Same H H' → vs.length = n → (∀ v ∈ vs, OdV K r ws H' v) → Q vs H') → ta σ H Q
section
variable {K : PySem.W.Frag} {r sc : Addr} {ns : List Int} {tv : V} {t : List (Int × Int)} {ws : Ws} {σ : L2.St}
theorem gv_of {te : TE} {d : PyData} (g : GD K r sc ns tv t σ te d) (o : OdD ws d) : GV K r sc ns tv t ws σ te := fun H Q b k => g H Q b fun v H' s h => k v H' s ⟨d, .inl h, o⟩
theorem gv_dict : GV K r sc ns tv t ws σ tDNewK := fun H Q b k p np => k _ _ (same_new np) ⟨.dict [], .inr ⟨p, rfl, upd_same, rfl⟩, od_not rfl⟩
theorem ga_nil : GA K r sc ns tv t ws σ tNil 0 := fun H Q b k => k [] H (.refl H) rfl fun _ h => nomatch h
theorem ga_cons {te : TE} {ta : TA} {n : Nat} (g : GV K r sc ns tv t ws σ te) (ga : GA K r sc ns tv t ws σ ta n) : GA K r sc ns tv t ws σ (tCons te ta) (n + 1) := fun H Q b k => by
  refine g H _ b fun v H1 s1 o1 => ga H1 _ (b.same s1) fun vs H2 s2 l o2 => k (v :: vs) H2 (s1.trans s2) (by rw [List.length_cons, l]) fun u hu => ?_
  rcases List.mem_cons.mp hu with rfl | hu
  · exact o1.same s2
  · exact o2 u hu
end
end SW
/-! B18: the law's second part: every tree. -/
namespace SW
open PySem PySem.Spec PyProof.Rows L2 SW0 SWM
abbrev sLaw : Stmt := top 32
abbrev nLaw : List Str := ["_law_script", "_law_row", "_law_wires_here", "_law_many", "_law_grown_here", "_law_due", "_law_tree", "_law_told", "_law_cost", "_law_at", "_law_odd", "_law_fits", "_law_wire", "_law_one", "_law_other", "_law_house", "_law_line"]
theorem scLaw : FnScope nLaw ["_law_script"] (defScope sLaw) := ⟨rfl, rfl, rfl, by decide +kernel, rfl, by decide +kernel, by decide +kernel⟩
abbrev XL (P : Program) (w : World) (K : PySem.W.Frag) (mg : Str → Option Value) (base : Heap) (f : Addr) (cdv : Value) (A : Around) (outer : List Env) (s : Shared) (H : Hp) (E : XK) : Cx :=
  (cxOf CX0 P w K mg base nLaw "law" (defScope sLaw) f cdv A outer s H E).nox
/-- a tree is known -/
theorem known_tree {K : PySem.W.Frag} {H : Hp} {v : V} {ws : Ws} {t : List (Int × Int)} (h : Dp K H v (tD t)) (o : TreeOk ws.length t) : KnownS K H v ws (decide (psum ws t = due ws)) :=
  .inr ⟨t.map pD, h, fun _ => leaf_pD _, fun _ _ _ => by rw [asP_pD]; exact o.sp, (isM_ok o).symm⟩
section
variable {P : Program} {w : World} {K : PySem.W.Frag} {mg : Str → Option Value} {base : Heap}
theorem law_b (B : Bi mg) (cA : Cal P w K mg base 3 "_law_alike" (spAlike K 3)) (cL : Cal P w K mg base 6 "is_least_tree" (spLeast K)) (cT : Cal P w K mg base 3 "_law_all_trees" (spTrees K)) (cB : Cal P w K mg base 1 "_law_between" (spCost K))
    {f : Addr} {cdv : Value} {A : Around} {outer : List Env} {s : Shared} {H0 : Hp} {E : XK} (hr : Room 6 (A.deeper (envOfC "law" (defScope sLaw) s.heap.objs.size f cdv)))
    {tC : TS} (hC : PSs (XL P w K mg base f cdv A outer s H0 E) ((defBody sLaw).drop 8) tC) :
    ∃ t, PSs (XL P w K mg base f cdv A outer s H0 E) ((defBody sLaw).drop 7) t ∧ ∀ (D : Ends) (H : Hp) (av rv x gv tv : V) (ws : Ws) (r : Addr), Good ws → Dp K H x (wD ws) →
      (∀ s7 s8 H', Same H H' → tC D [some av, some rv, some x, some (.int (ws.length : Int)), some gv, some (.int (due ws)), some tv, s7, s8, none, none, none, none, none, none, none, none] H') →
      t D [some av, some rv, some x, some (.int (ws.length : Int)), some gv, some (.int (due ws)), some tv, none, none, none, none, none, none, none, none, none, none] H := by
  refine ⟨_, pss_cons (ps_if (pt_cmpR op_lt (pv 3) pe_int (nomark _))
      (pss_one (ps_for PassesOwn.never rfl (pi_list (pc cT hr (by decide) (pa_cons (pv 3) pa_nil))) (pg_name (i := 7) scLaw.nd rfl (.inl rfl))
        (pss_cons (ps_set (i := 8) scLaw.nd rfl (.inl rfl) (pe_callB (cr_sum rfl) (by rfl) B.sum (by decide +kernel) (pa_cons
          (pe_lc (own := [("_law_one", 13), ("_law_other", 14)]) (g := gTup K 2 (gCons (gName 13) (gCons (gName 14) gNil))) (tt := tYes) rfl scLaw.nd (pi_tup (pv 7)) (blkOk_by (N := nLaw) (sc := defScope sLaw) (by decide +kernel))
            (fun _ _ _ _ _ => pg_tup rfl (pgs_cons (pg_name (i := 13) scLaw.nd rfl (.inl rfl)) (pgs_cons (pg_name (i := 14) scLaw.nd rfl (.inl rfl)) pgs_nil))) (fun _ _ _ _ _ => pts_nil)
            (fun _ _ _ _ _ => pc cB hr (by decide) (pa_cons (pv 2) (pa_cons (pv 13) (pa_cons (pv 14) pa_nil))))) pa_nil)))
        (pss_one (ps_if (PW.pt (pw_or (pt_cmpR op_lt (pv 8) (pv 5) (nomark _)) (pw_or1 (pt_not (pt_val (pc cA hr (by decide) (pa_cons (pc cL hr (by decide) (pa_cons (pv 2) (pa_cons (pv 7) pa_nil))) (pa_cons (pe_cmpR op_eq (pv 8) (pv 5) (nomark _)) pa_nil)))))))) (pss_one (ps_ret pe_bl)) pss_nil)))))
      pss_nil) hC, ?_⟩
  intro D H av rv x gv tv ws r g hx k
  have h6 := g.hi
  have h1 := g.lo
  refine ⟨_, rfl, _, _, rfl, rfl, _, rfl, ?_⟩
  by_cases c : ws.length < 4
  · rw [decide_eq_true (show (ws.length : Int) < 4 by omega)]
    refine iteT ?_
    refine ⟨_, rfl, ws.length, rfl, c, fun H1 p xs s1 ep hp => ?_⟩
    refine ⟨p, rfl, ⟨_, .of ep⟩, for_list (K := K) (a := p) (xs := xs) (fun i σ H' => ∃ s7 s8, σ = [some av, some rv, some x, some (.int (ws.length : Int)), some gv, some (.int (due ws)), some tv, s7, s8, none, none, none, none, none, none, none, none] ∧ Same H1 H')
      ⟨none, none, rfl, .refl _⟩ (fun i σ H' _ ⟨_, _, _, s2⟩ => .of (s2 _ _ ep)) ?_ ?_⟩
    · rintro i y σ H2 hi ⟨s7, s8, rfl, s2⟩
      obtain ⟨d, hd, hdv⟩ := hp.get hi
      rw [List.getElem?_map] at hd
      obtain ⟨t, ht, rfl⟩ := Option.map_eq_some_iff.mp hd
      have o := trees_ok h1 c t (List.mem_of_getElem? ht)
      have lo := least g o
      have hy := hdv.same s2 _
      obtain ⟨a, zs, rfl, hS, hZ⟩ := (show Dp K H2 y (.tuple (t.map pD)) from hy).tupI
      have lz : zs.length = t.length := by rw [hZ.len, List.length_map]
      have l4 := o.len
      refine ⟨_, rfl, a, rfl, ⟨_, hS⟩, fun C nC => lc_tup (K := K) (a := a) (xs := zs) (fun j H' => Same H2 H' ∧ H' C = some (.lst ((t.take j).map fun p => V.int (wc ws p.1 p.2)))) ⟨same_new nC, upd_same⟩ (fun j H' _ q => same_seqT q.1 hS) ?_ ?_⟩
      · rintro j z H3 hj ⟨s3, eC⟩
        obtain ⟨d', hd', hdv'⟩ := hZ.get hj
        rw [List.getElem?_map] at hd'
        obtain ⟨q, hq, rfl⟩ := Option.map_eq_some_iff.mp hd'
        have hqr := o.rng q (List.mem_of_getElem? hq)
        obtain ⟨b, rfl, hB⟩ := p_tup (hdv'.same s3 _)
        have hjl := (List.getElem?_eq_some_iff.mp hq).1
        refine ⟨b, _, rfl, hB, rfl, _, _, rfl, _, _, rfl, rfl, rfl, ?_⟩
        refine ⟨_, rfl, _, rfl, _, rfl, _, ws, q.1, q.2, rfl, hx.same ((s1.trans s2).trans s3) _, g, hqr.1, hqr.2.1, hqr.2.2, ?_⟩
        refine ⟨_, eC, sizeS (by rw [List.length_map, List.length_take]; omega), same_set s3 nC, ?_⟩
        rw [upd_same, take_next' hq, List.map_append]
        rfl
      · rintro H3 ⟨s3, eC⟩
        rw [take_map_all lz] at eC
        refine ⟨C, t.map fun p => wc ws p.1 p.2, rfl, .of (by rw [List.map_map]; exact eC), ?_⟩
        have es : (t.map fun p => wc ws p.1 p.2).sum = psum ws t := rfl
        rw [es]
        refine ⟨_, rfl, _, rfl, _, _, rfl, rfl, _, rfl, ?_⟩
        rw [decide_eq_false (show ¬ psum ws t < due ws by omega)]
        refine iteF ?_
        refine ⟨_, rfl, _, rfl, x, .ref a, ws, _, rfl, hx.same ((s1.trans s2).trans s3) _, g, known_tree (hy.same s3 _) o, fun H4 s4 => ?_⟩
        refine ⟨_, rfl, _, rfl, rfl, ?_⟩
        refine ⟨_, _, _, _, rfl, .inl (.bl _), .bl _, True.intro, fun H5 s5 => ?_⟩
        refine ⟨_, rfl, ?_⟩
        have e : alk 3 (.bool (decide (psum ws t = due ws))) (.bool (decide (V.int (psum ws t) = V.int (due ws)))) = true := by
          refine decide_eq_true ?_
          by_cases cc : psum ws t = due ws
          · rw [decide_eq_true cc, decide_eq_true (show V.int (psum ws t) = V.int (due ws) by rw [cc])]
          · rw [decide_eq_false cc, decide_eq_false (show ¬ V.int (psum ws t) = V.int (due ws) from fun z => cc (V.int.inj z))]
        rw [e]
        refine iteF ?_
        exact ⟨_, _, rfl, ((s2.trans s3).trans s4).trans s5⟩
    · rintro σ H2 ⟨s7, s8, rfl, s2⟩
      exact k s7 s8 H2 (s1.trans s2)
  · rw [decide_eq_false (show ¬ (ws.length : Int) < 4 by omega)]
    exact iteF (k none none H (.refl H))
end
end SW
/-! B19: the law's third part: the odd values. -/
namespace SW
open PySem PySem.Spec PyProof.Rows L2 SW0 SWM
theorem cut_to {ds : List PyData} {i : Int} {k : Nat} (e : i = (k : Int)) : cutD ds none (some i) = ds.take k := by
  subst e
  unfold cutD
  rw [HT.sIx_none, HT.sIx_nat, List.drop_zero, Nat.sub_zero]
  by_cases c : k ≤ ds.length
  · rw [Nat.min_eq_left c]
  · rw [Nat.min_eq_right (by omega), List.take_length, List.take_of_length_le (by omega)]
theorem cut_from {ds : List PyData} {i : Int} {k : Nat} (e : i = (k : Int)) : cutD ds (some i) none = ds.drop k := by
  subst e
  unfold cutD
  rw [HT.sIx_none, HT.sIx_nat]
  by_cases c : k ≤ ds.length
  · rw [Nat.min_eq_left c]
    exact List.take_of_length_le (by rw [List.length_drop]; omega)
  · rw [Nat.min_eq_right (by omega), Nat.sub_self, List.take_zero, List.drop_of_length_le (by omega)]
section
variable {K : PySem.W.Frag} {r sc : Addr} {ns : List Int} {tv : V} {t : List (Int × Int)} {ws : Ws} {σ : L2.St}
theorem gd_from {te : TE} {tl : L2.TO} {ds : List PyData} {i : Int} {k : Nat} (g : GD K r sc ns tv t σ te (.tuple ds)) (hl : ∀ H (Q : Option Int → Hp → Prop), Q (some i) H → tl σ H Q) (e : i = (k : Int)) : GD K r sc ns tv t σ (tSl (rSlA K) te tl tNoPart) (.tuple (ds.drop k)) := by
  rw [← cut_from (ds := ds) e]
  exact gd_slice g hl fun _ _ q => q
theorem gd_to {te : TE} {th : L2.TO} {ds : List PyData} {i : Int} {k : Nat} (g : GD K r sc ns tv t σ te (.tuple ds)) (hh : ∀ H (Q : Option Int → Hp → Prop), Q (some i) H → th σ H Q) (e : i = (k : Int)) : GD K r sc ns tv t σ (tSl (rSlA K) te tNoPart th) (.tuple (ds.take k)) := by
  rw [← cut_to (ds := ds) e]
  exact gd_slice g (fun _ _ q => q) hh
/-- tree[:at] + (d,) + tree[at + 1:] -/
theorem gd_put (h6 : σ[6]? = some (some tv)) {i : Nat} (h9 : σ[9]? = some (some (.int (i : Int)))) (hl : i < t.length) (h7 : t.length ≤ 7) {te : TE} {d : PyData} (g : GD K r sc ns tv t σ te d) :
    GD K r sc ns tv t σ (tOp (rCatA K) (tOp (rCatA K) (tSl (rSlA K) (tVar 6) tNoPart (tPart (tVar 9))) (tTup (tCons te tNil))) (tSl (rSlA K) (tVar 6) (tPart (tOp (rI0 fun i j => .int (i + j)) (tVar 9) (tC (.int 1)))) tNoPart)) (.tuple (putD t i d)) := by
  have e : putD t i d = (((t.map pD).take i) ++ [d]) ++ (t.map pD).drop (i + 1) := by
    unfold putD
    rw [List.map_take, List.map_drop]
  rw [e]
  refine gd_cat (gd_cat (gd_to (i := (i : Int)) (gd_var h6) (fun H Q q => ⟨_, h9, _, rfl, q⟩) rfl) (gd_one g) ?_) (gd_from (i := (i : Int) + 1) (gd_var h6) (fun H Q q => ⟨_, h9, _, _, rfl, rfl, _, rfl, q⟩) (by omega)) ?_
  · rw [List.length_take, List.length_map, List.length_singleton]
    omega
  · rw [List.length_append, List.length_take, List.length_map, List.length_singleton, List.length_drop, List.length_map]
    omega
theorem gv_if {te tu : TE} {tt : TT} {b : Bool} (hc : ∀ (H : Hp) (Q : Bool → Hp → Prop), Q b H → tt σ H Q) (h1 : b = true → GV K r sc ns tv t ws σ te) (h2 : b = false → GV K r sc ns tv t ws σ tu) : GV K r sc ns tv t ws σ (tIf tt te tu) := fun H Q bs k => by
  refine hc H _ ?_
  cases b with
  | true => exact iteT (h1 rfl H Q bs k)
  | false => exact iteF (h2 rfl H Q bs k)
theorem ga_set {ta : TA} {n i : Nat} {D : Ends} {H : Hp} (ga : GA K r sc ns tv t ws σ ta n) (b : Bs K r sc ns tv t H) (hn : n ≤ 100) (k : ∀ H' O vs, Same H H' → O ≠ r → H' O = some (.lst vs) → vs.length = n → (∀ v ∈ vs, OdV K r ws H' v) → D.nx (σ.set i (some (.ref O))) H') : tAsg (tLst ta) (gName i) D σ H := by
  refine ga H _ b fun vs H1 s1 l o => ⟨Nat.le_of_lt (sizeS (by omega)), fun p np => ?_⟩
  have sp := same_new (o := .lst vs) np
  exact k _ p vs (s1.trans sp) ((b.same s1).row.ne np) upd_same l fun v hv => (o v hv).same sp
theorem ga_plus {ta : TA} {n i : Nat} {D : Ends} {H : Hp} {O : Addr} {vs : List V} (ga : GA K r sc ns tv t ws σ ta n) (b : Bs K r sc ns tv t H) (hn : n ≤ 100) (hi : σ[i]? = some (some (.ref O))) (eO : H O = some (.lst vs)) (hv : vs.length ≤ 100) (ho : ∀ v ∈ vs, OdV K r ws H v)
    (k : ∀ Hm O' vs', Same H Hm → Hm O' = none → vs'.length = vs.length + n → (∀ v ∈ vs', OdV K r ws Hm v) → D.nx (σ.set i (some (.ref O'))) (upd Hm O' (.lst vs'))) : tAsg (tOp rCat (tVar i) (tLst ta)) (gName i) D σ H := by
  refine ⟨_, hi, ga H _ b fun us H1 s1 l o => ⟨Nat.le_of_lt (sizeS (by omega)), fun p np => ?_⟩⟩
  have sp := same_new (o := .lst us) np
  have eO1 := sp _ _ (s1 _ _ eO)
  refine ⟨O, p, vs, us, rfl, rfl, eO1, upd_same, Nat.le_of_lt (sizeS (by omega)), fun q nq => ?_⟩
  have s3 := s1.trans sp
  refine k _ q _ s3 nq (by rw [List.length_append, l]) fun v hv => ?_
  rcases List.mem_append.mp hv with hv | hv
  · exact (ho v hv).same s3
  · exact (o v hv).same sp
/-- the nine odd values -/
theorem ga_nine (g : Good ws) (h3 : σ[3]? = some (some (.int (ws.length : Int)))) (h6 : σ[6]? = some (some tv)) : GA K r sc ns tv (tr ws) ws σ
    (tCons (tC .non) (tCons (tTup tNil) (tCons (tSl (rSlA K) (tVar 6) (tPart (tC (.int 1))) tNoPart) (tCons (tOp (rCatA K) (tVar 6) (tSl (rSlA K) (tVar 6) tNoPart (tPart (tC (.int 1)))))
      (tCons (tCB (fun xs H Q => ∃ p ys, xs = [.ref p] ∧ (SqL K H p ys ∨ SqT K H p ys) ∧ ∀ l, H l = none → Q (.ref l) (upd H l (.lst ys))) (tCons (tVar 6) tNil))
        (tCons (tIf (tTest (tOp (rI0 fun i j => .bl (decide (j < i))) (tVar 3) (tC (.int 1)))) (tRevT K (tVar 6)) (tC .non)) (tCons tDNewK (tCons (tC (.int 0))
          (tCons (tOp (fun x y H Q => rOnce K x y H Q ∨ rRepT K x y H Q) (tTup (tCons (tC .non) tNil)) (tVar 3)) tNil))))))))) 9 := by
  have h7 := g.hi
  have h1 := g.lo
  have hl := tr_len g
  have hv : GD K r sc ns tv (tr ws) σ (tVar 6) (.tuple ((tr ws).map pD)) := gd_var h6
  refine ga_cons (gv_of gd_none (od_not rfl)) (ga_cons (gv_of gd_nil (od_len (by show 0 ≠ _; omega))) (ga_cons (gv_of (gd_from (k := 1) hv (fun _ _ q => ⟨1, rfl, q⟩) rfl) (od_len ?_)) (ga_cons (gv_of (gd_cat hv (gd_to (k := 1) hv (fun _ _ q => ⟨1, rfl, q⟩) rfl) ?_) (od_len ?_))
    (ga_cons (gv_of (gd_list hv) (od_not rfl)) (ga_cons (gv_if (b := decide ((1 : Int) < (ws.length : Int))) (fun H Q q => ⟨_, h3, _, _, rfl, rfl, _, rfl, q⟩) (fun c => ?_) (fun c => gv_of gd_none (od_not rfl))) (ga_cons gv_dict (ga_cons (gv_of (gd_int 0) (od_not rfl)) (ga_cons (gv_of (gd_rep h3 h1 h7) (od_nones h1)) ga_nil))))))))
  · rw [List.length_drop, List.length_map, hl]
    omega
  · rw [List.length_take, List.length_map, hl]
    omega
  · rw [List.length_append, List.length_take, List.length_map, hl]
    omega
  · have c' : (1 : Int) < (ws.length : Int) := of_decide_eq_true c
    refine gv_of (gd_rev hv) ?_
    rw [← List.map_reverse]
    exact od_rev g (by omega)
end
end SW
/-! B20: the law's third part: the walk. -/
namespace SW
open PySem PySem.Spec PyProof.Rows L2 SW0 SWM
section
variable {P : Program} {w : World} {K : PySem.W.Frag} {mg : Str → Option Value} {base : Heap}
theorem law_c (B : Bi mg) (cA : Cal P w K mg base 3 "_law_alike" (spAlike K 3)) (cL : Cal P w K mg base 6 "is_least_tree" (spLeast K)) (cT : Cal P w K mg base 1 "_law_taken" (spTaken K)) (cP : Cal P w K mg base 2 "_law_pick" (spPick K))
    {f : Addr} {cdv : Value} {A : Around} {outer : List Env} {s : Shared} {H0 : Hp} {E : XK} (hr : Room 6 (A.deeper (envOfC "law" (defScope sLaw) s.heap.objs.size f cdv))) :
    ∃ t, PSs (XL P w K mg base f cdv A outer s H0 E) ((defBody sLaw).drop 8) t ∧ ∀ (D : Ends) (H : Hp) (av x gv tv : V) (s7 s8 : Option V) (ws : Ws) (r sc : Addr) (ns : List Int), Good ws → Dp K H x (wD ws) → RowAt K H r sc ns → Dp K H tv (tD (tr ws)) →
      (∀ H', D.rt (.bl true) H') →
      t D [some av, some (.ref r), some x, some (.int (ws.length : Int)), some gv, some (.int (due ws)), some tv, s7, s8, none, none, none, none, none, none, none, none] H := by
  refine ⟨_, pss_cons (ps_set (i := 9) scLaw.nd rfl (.inl rfl) (pc cT hr (by decide) (pa_cons (pv 1) (pa_cons (pv 3) pa_nil))))
    (pss_cons (ps_set (i := 10) scLaw.nd rfl (.inl rfl) (pe_lst (pa_cons pe_non (pa_cons (pe_tup pa_nil) (pa_cons (pe_slice sl_tupA (pv 6) (po_some pe_int) po_none) (pa_cons (pe_op op_catA (pv 6) (pe_slice sl_tupA (pv 6) po_none (po_some pe_int)))
      (pa_cons (pe_callTy call_list_of (by rfl) B.list (by decide +kernel) (pa_cons (pv 6) pa_nil)) (pa_cons (pe_ifExp (pt_cmpR op_gt (pv 3) pe_int (nomark _)) (pe_revT (pv 6)) pe_non) (pa_cons pe_dnewK (pa_cons pe_int
        (pa_cons (pe_op (OpR.or op_once op_repT) (pe_tup (pa_cons pe_non pa_nil)) (pv 3)) pa_nil)))))))))))
    (pss_cons (ps_set (i := 10) scLaw.nd rfl (.inl rfl) (pe_op op_cat (pv 10) (pe_lst (pa_cons
        (pe_op op_catA (pe_op op_catA (pe_slice sl_tupA (pv 6) po_none (po_some (pv 9))) (pe_tup (pa_cons (pe_revT (pe_ix ix_tup (pv 6) (pv 9) (fun _ _ => rfl))) pa_nil))) (pe_slice sl_tupA (pv 6) (po_some (pe_op op_add (pv 9) pe_int)) po_none)) (pa_cons
        (pe_op op_catA (pe_op op_catA (pe_slice sl_tupA (pv 6) po_none (po_some (pv 9))) (pe_tup (pa_cons (pe_callTy call_list_of (by rfl) B.list (by decide +kernel) (pa_cons (pe_ix ix_tup (pv 6) (pv 9) (fun _ _ => rfl)) pa_nil)) pa_nil))) (pe_slice sl_tupA (pv 6) (po_some (pe_op op_add (pv 9) pe_int)) po_none)) pa_nil)))))
    (pss_cons (ps_set (i := 10) scLaw.nd rfl (.inl rfl) (pe_op op_cat (pv 10) (pe_lst (pa_cons
        (pe_op op_catA (pe_op op_catA (pe_slice sl_tupA (pv 6) po_none (po_some (pv 9))) (pe_tup (pa_cons (pe_tup (pa_cons (pe_op op_add (pv 3) pe_int) (pa_cons (pe_op op_add (pv 3) pe_int) pa_nil))) pa_nil))) (pe_slice sl_tupA (pv 6) (po_some (pe_op op_add (pv 9) pe_int)) po_none)) (pa_cons
        (pe_op op_catA (pe_op op_catA (pe_slice sl_tupA (pv 6) po_none (po_some (pv 9))) (pe_tup (pa_cons (pe_tup (pa_cons pe_int (pa_cons pe_bl pa_nil))) pa_nil))) (pe_slice sl_tupA (pv 6) (po_some (pe_op op_add (pv 9) pe_int)) po_none)) pa_nil)))))
    (pss_cons (ps_expr (pe_bm PySem.F.plainAttrs_list PySem.F.slot_list_append PySem.F.type_list_append mt_append (pv 10) (pa_cons (pe_callTy call_tuple_of (by rfl) B.tuple (by decide +kernel) (pa_cons
        (pe_lc (own := [("_law_house", 15)]) (g := gName 15) (tt := tYes) (te := tTup (tCons (tC (.int 0)) (tCons (tOp (rI0 fun i j => .int (i + j)) (tVar 15) (tC (.int 1))) tNil))) rfl scLaw.nd (pi_range1 (by rfl) B.range (pa_cons (pv 3) pa_nil)) (blkOk_by (N := nLaw) (sc := defScope sLaw) (by decide +kernel))
          (fun _ _ _ _ _ => pg_name (i := 15) scLaw.nd rfl (Or.inl rfl)) (fun _ _ _ _ _ => pts_nil) (fun _ _ _ _ _ => pe_tup (pa_cons pe_int (pa_cons (pe_op op_add (pv 15) pe_int) pa_nil)))) pa_nil)) pa_nil)))
    (pss_cons (ps_set (i := 7) scLaw.nd rfl (.inl rfl) (pc cP hr (by decide) (pa_cons (pv 1) (pa_cons (pv 10) pa_nil))))
    (pss_cons (ps_set (i := 11) scLaw.nd rfl (.inl rfl) (pe_and (pc cA hr (by decide) (pa_cons (pv 7) (pa_cons (pe_ix ix_list (pv 10) (pe_un un_neg pe_int) (fun _ _ => rfl)) pa_nil)))
        (pe_one (pe_cmpR op_eq (pe_callB (cr_sum rfl) (by rfl) B.sum (by decide +kernel) (pa_cons
          (pe_lc (own := [("_law_line", 16)]) (g := gName 16) (tt := tYes) (te := tOp (rIxT K) (tVar 16) (tC (.int 0))) rfl scLaw.nd (pi_tup (pv 2)) (blkOk_by (N := nLaw) (sc := defScope sLaw) (by decide +kernel))
            (fun _ _ _ _ _ => pg_name (i := 16) scLaw.nd rfl (Or.inl rfl)) (fun _ _ _ _ _ => pts_nil) (fun _ _ _ _ _ => pe_ix ix_tup (pv 16) pe_int (fun _ _ => rfl))) pa_nil)) (pv 5) (nomark _)))))
    (pss_one (ps_ret (pc cA hr (by decide) (pa_cons (pc cL hr (by decide) (pa_cons (pv 2) (pa_cons (pv 7) pa_nil))) (pa_cons (pv 11) pa_nil))))))))))), ?_⟩
  intro D H av x gv tv s7 s8 ws r sc ns g hx row ht k
  have h6 := g.hi
  have h1 := g.lo
  have hl := tr_len g
  -- at
  refine ⟨_, rfl, _, rfl, r, (ws.length : Int), sc, ns, rfl, row, by omega, by omega, fun H1 at' row1 sx1 a0 a1 => ?_⟩
  obtain ⟨i, rfl⟩ : ∃ i : Nat, at' = (i : Int) := ⟨at'.toNat, by omega⟩
  have hi : i < (tr ws).length := by omega
  obtain ⟨xr, er⟩ := row.lst
  have st1 := sameX_T sx1 er
  have b1 : Bs K r sc ns tv (tr ws) H1 := ⟨row1, ht.sameT st1 _ (nl_t _)⟩
  have hx1 := hx.sameT st1 _ (nl_w _)
  clear ht hx sx1 st1 er row row1
  -- odd
  dsimp only [gName, tSeq]
  refine ga_set (r := r) (sc := sc) (ns := ns) (tv := tv) (t := tr ws) (ws := ws) (K := K) (ga_nine g rfl rfl) b1 (by decide) fun H2 O vs s2 nO eO lO hO => ?_
  have b2 := b1.same s2
  dsimp only [gName, tSeq]
  refine ga_plus (r := r) (sc := sc) (ns := ns) (tv := tv) (t := tr ws) (ws := ws) (K := K) (n := 2) (ga_cons (gv_of (gd_put rfl (i := i) rfl hi (by omega) (gd_rev (gd_ix rfl (i := i) rfl hi))) ?_) (ga_cons (gv_of (gd_put rfl (i := i) rfl hi (by omega) (gd_list (gd_ix rfl (i := i) rfl hi))) (od_list hi (by omega) _)) ga_nil)) b2 (by decide) rfl eO (by omega) hO fun Hn O3 vs3 sn fO3 lO3 hOn => ?_
  · have e : putD (tr ws) i (.tuple [PyData.int (tr ws)[i].1, .int (tr ws)[i].2].reverse) = (putP (tr ws) i ((tr ws)[i].2, (tr ws)[i].1)).map pD := by
      unfold putD putP
      rw [List.map_append, List.map_append]
      rfl
    rw [e]
    exact od_turned g hi
  have sf3 := same_new (o := .lst vs3) fO3
  have b3 := (b2.same sn).same sf3
  have s3 := sn.trans sf3
  have hO3 : ∀ v ∈ vs3, OdV K r ws (upd Hn O3 (.lst vs3)) v := fun v hv => (hOn v hv).same sf3
  have eO3 : (upd Hn O3 (.lst vs3)) O3 = some (.lst vs3) := upd_same
  generalize upd Hn O3 (.lst vs3) = H3 at b3 s3 hO3 eO3 ⊢
  clear hOn sf3 sn fO3
  dsimp only [gName, tSeq]
  refine ga_plus (r := r) (sc := sc) (ns := ns) (tv := tv) (t := tr ws) (ws := ws) (K := K) (n := 2) (ga_cons (gv_of (gd_put rfl (i := i) rfl hi (by omega) (gd_two (gd_add (n := ws.length) rfl 1) (gd_add (n := ws.length) rfl 2))) ?_) (ga_cons (gv_of (gd_put rfl (i := i) rfl hi (by omega) (gd_two (gd_int 0) (gd_bool true))) (od_true hi (by omega))) ga_nil)) b3 (by decide) rfl eO3 (by omega) hO3 fun Hm O4 vs4 sm fO4 lO4 hOm => ?_
  · have e : putD (tr ws) i (.tuple [PyData.int ((ws.length : Int) + 1), .int ((ws.length : Int) + 2)]) = (putP (tr ws) i ((ws.length : Int) + 1, (ws.length : Int) + 2)).map pD := by
      unfold putD putP
      rw [List.map_append, List.map_append]
      rfl
    rw [e]
    exact od_far
  have bm := b3.same sm
  have hxm := ((hx1.same s2 _).same s3 _).same sm _
  have l13 : vs4.length = 13 := by omega
  have s4 := same_new (o := .lst vs4) fO4
  have eO4 : (upd Hm O4 (.lst vs4)) O4 = some (.lst vs4) := upd_same
  generalize upd Hm O4 (.lst vs4) = H4 at s4 eO4 ⊢
  clear eO lO hO eO3 lO3 hO3 b1 b2 b3 hx1 nO s2 s3 sm
  -- odd.append(the wires from the well)
  refine ⟨_, rfl, .inl ⟨rfl, _, .of eO4⟩, _, rfl, _, rfl, by omega, by omega, fun C nC => ?_⟩
  rw [show ((ws.length : Int)).toNat = ws.length by omega]
  refine lc_range (lo := 0) (n := ws.length) (fun j H' => ∃ ys, Same H4 H' ∧ H' C = some (.lst ys) ∧ DpAll K H' ys (((star ws.length).take j).map pD)) ⟨[], same_new nC, upd_same, .nil⟩ ?_ ?_
  · rintro j H5 hj ⟨ys, s5, eC, hC⟩
    have hq : (star ws.length)[j]? = some ((0 : Int), (j : Int) + 1) := by
      unfold star
      rw [List.getElem?_map, List.getElem?_range hj]
      rfl
    refine ⟨rfl, ?_⟩
    refine ⟨_, rfl, _, _, rfl, rfl, (by show 2 ≤ sizeLine; decide), fun T nT => ?_⟩
    have nTC : C ≠ T := ne_of_none eC nT
    have eC' : (upd H5 T (.tup [.int 0, .int (0 + (j : Int) + 1)])) C = some (.lst ys) := by
      rw [upd_ne nTC]
      exact eC
    have lys : ys.length ≤ 6 := by
      rw [hC.len, List.length_map, List.length_take, star_len]
      omega
    refine ⟨ys, eC', sizeS (by omega), _, same_set (same_add s5 nT) nC, upd_same, ?_⟩
    rw [take_next' hq, List.map_append]
    have st := (sameT_new (o := .tup [.int 0, .int (0 + (j : Int) + 1)]) nT).trans (sameT_lst (o := .lst (ys ++ [.ref T])) eC')
    refine (hC.sameT st _ (nl_all nl_p _)).app (.one (mk_p (p := (0, (j : Int) + 1)) (.of ?_)))
    rw [upd_ne nTC.symm, upd_same, Int.zero_add]
  rintro H5 ⟨ys, s5, eC, hC⟩
  rw [List.take_of_length_le (by rw [star_len]; exact Nat.le_refl _)] at hC
  refine ⟨C, ys, rfl, .inl ⟨.of eC, fun S nS => ?_⟩⟩
  have s6 := (s4.trans s5).trans (same_new (o := .tup ys) nS)
  have eO6 := (s5.trans (same_new (o := .tup ys) nS)) _ _ eO4
  have hS : Dp K (upd H5 S (.tup ys)) (.ref S) (tD (star ws.length)) := .tup (.of upd_same) (hC.same (same_new nS) _)
  generalize upd H5 S (.tup ys) = H6 at eO6 hS s6 ⊢
  refine ⟨O4, vs4, _, rfl, rfl, eO6, sizeS (by omega), ?_⟩
  have s7 := same_set (o := .lst (vs4 ++ [.ref S])) s6 fO4
  have eO7 : (upd H6 O4 (.lst (vs4 ++ [.ref S]))) O4 = some (.lst (vs4 ++ [.ref S])) := upd_same
  have hS7 := hS.sameT (sameT_lst (o := .lst (vs4 ++ [.ref S])) eO6) _ (nl_t _)
  have nO4 : O4 ≠ r := bm.row.ne fO4
  generalize upd H6 O4 (.lst (vs4 ++ [.ref S])) = H7 at s7 eO7 hS7 ⊢
  have hO7 : ∀ v ∈ vs4 ++ [.ref S], OdV K r ws H7 v := fun v hv => by
    rcases List.mem_append.mp hv with hv | hv
    · exact (hOm v hv).same s7
    · rw [List.mem_singleton.mp hv]
      obtain ⟨a, zs, e, hs, hz⟩ := (show Dp K H7 (.ref S) (.tuple ((star ws.length).map pD)) from hS7).tupI
      cases e
      exact ⟨tD (star ws.length), .inl (.tup hs (dx_ps hz)), od_star ws⟩
  have b7 := bm.same s7
  have hx7 := hxm.same s7 _
  have h7r := b7.row
  clear hC eC nC nS hOm eO4 eO6 hS s4 s5 s6 s7 bm hxm b7
  -- told
  refine ⟨_, rfl, _, rfl, r, O4, vs4 ++ [.ref S], sc, ns, rfl, h7r, eO7, nO4, by rw [List.length_append, l13, List.length_singleton]; decide, by rw [List.length_append, l13, List.length_singleton]; decide, fun H8 v row8 sx8 hv => ?_⟩
  obtain ⟨xr, er⟩ := h7r.lst
  have st8 := sameX_T sx8 er
  obtain ⟨d, hd, od⟩ := (hO7 v hv).keep er sx8
  have hx8 := hx7.sameT st8 _ (nl_w _)
  have hS8 := hS7.sameT st8 _ (nl_t _)
  have eO8 := sx8 _ _ nO4 eO7
  clear hO7 hx7 hS7 eO7 st8 sx8 hv row8 h7r er
  -- fits
  refine ⟨_, rfl, _, rfl, 1, rfl, O4, vs4 ++ [.ref S], -1, .ref S, rfl, rfl, .of eO8, atI_last _ _, ?_⟩
  refine ⟨v, .ref S, d, tD (star ws.length), rfl, hd, hS8, lvl_t (by rw [star_len]; omega), fun H9 s9 => ?_⟩
  have al : ∀ b c : Bool, b = c → alk 3 (.bool b) (.bool c) = true := fun b c e => decide_eq_true e
  refine ⟨_, rfl, ?_⟩
  have kn := fun H' (z : Same H8 H') => od_known (hd.same z) od
  generalize alk 3 d (tD (star ws.length)) = b1 at kn ⊢
  cases b1 with
  | false =>
    refine iteF ?_
    refine ⟨_, rfl, _, rfl, x, v, ws, _, rfl, hx8.same s9 _, g, kn _ s9, fun H10 s10 => ?_⟩
    refine ⟨_, rfl, _, _, _, _, rfl, .inl (.bl _), .bl _, True.intro, fun H11 s11 => ?_⟩
    rw [al _ _ (by rw [Bool.false_and])]
    exact k H11
  | true =>
    refine iteT ?_
    obtain ⟨tw, wxs, rfl, hT, hlw, hrow⟩ := w_row (hx8.same s9 _)
    refine ⟨_, rfl, tw, rfl, ⟨_, hT⟩, fun C nC => lc_tup (K := K) (a := tw) (xs := wxs) (fun j H' => Same H9 H' ∧ H' C = some (.lst ((ws.take j).map fun q => V.int (q.getD 0 0)))) ⟨same_new nC, upd_same⟩ (fun j H' _ q => same_seqT q.1 hT) ?_ ?_⟩
    · rintro j z H10 hj ⟨s10, eC⟩
      have hjl : j < ws.length := by
        have := (List.getElem?_eq_some_iff.mp hj).1
        omega
      have hq : ws[j]? = some ws[j] := List.getElem?_eq_getElem hjl
      obtain ⟨b, hb, hB⟩ := hrow j _ hq
      rw [hj] at hb
      cases hb
      have hne : 0 < ws[j].length := by
        have := (g.row j _ hq).1
        omega
      have h0 : atI (ws[j].map V.int) 0 = some (.int (ws[j].getD 0 0)) := by
        cases e : ws[j] with
        | nil =>
          rw [e] at hne
          cases hne
        | cons a l => exact at0
      refine ⟨rfl, _, rfl, b, _, 0, _, rfl, rfl, same_seqT s10 hB, h0, _, eC, sizeS (by rw [List.length_map, List.length_take]; omega), same_set s10 nC, ?_⟩
      rw [upd_same, take_next' hq, List.map_append]
      rfl
    · rintro H10 ⟨s10, eC⟩
      rw [take_map_all hlw] at eC
      refine ⟨C, ws.map fun q => q.getD 0 0, rfl, .of (by rw [List.map_map]; exact eC), _, rfl, rfl, ?_⟩
      rw [← star_sum ws g]
      have s910 := s9.trans s10
      refine ⟨_, rfl, _, rfl, .ref tw, v, ws, _, rfl, hx8.same s910 _, g, kn _ s910, fun H11 s11 => ?_⟩
      refine ⟨_, rfl, _, _, _, _, rfl, .inl (.bl _), .bl _, True.intro, fun H12 s12 => ?_⟩
      rw [al _ _ ?_]
      · exact k H12
      · rw [Bool.true_and]
        by_cases cc : psum ws (star ws.length) = due ws
        · rw [decide_eq_true cc, decide_eq_true (show V.int (psum ws (star ws.length)) = V.int (due ws) by rw [cc])]
        · rw [decide_eq_false cc, decide_eq_false (show ¬ V.int (psum ws (star ws.length)) = V.int (due ws) from fun z => cc (V.int.inj z))]
end
end SW
/-! B21: the law. -/
namespace SW
open PySem PySem.Spec PyProof.Rows L2 SW0 SWM
section
variable {P : Program} {w : World} {K : PySem.W.Frag} {mg : Str → Option Value} {base : Heap}
def spLaw (K : PySem.W.Frag) : Sp := fun vs H Q _ => ∃ (a : Addr) (ns : List Int), vs = [.ref a] ∧ SqL K H a (ns.map V.int) ∧ ns.length ≤ 63 ∧ ∀ H', Q (.bl true) H'
theorem ok_law {f : Addr} {fd : FuncData} (F : Fun K "law" "law" sLaw f fd) (B : Bi mg) (cA : Cal P w K mg base 3 "_law_alike" (spAlike K 3)) (cL : Cal P w K mg base 6 "is_least_tree" (spLeast K)) (cT : Cal P w K mg base 1 "_law_taken" (spTaken K)) (cP : Cal P w K mg base 2 "_law_pick" (spPick K))
    (cTr : Cal P w K mg base 3 "_law_all_trees" (spTrees K)) (cB : Cal P w K mg base 1 "_law_between" (spCost K)) (cW : Cal P w K mg base 3 "_law_wires" (spLWires K)) (cG : Cal P w K mg base 2 "_law_grown" (spGrown K)) (cC : Cal P w K mg base 4 "tree_cost" (spSum K)) (cF : Cal P w K mg base 4 "first_tree" (spFirst K)) :
    FnOk P w K mg base CX0 7 f fd ["_law_script"] (spLaw K) := by
  refine F.ok scLaw (fun vs H Q E h => ?_) (fun cdv A outer s H vs Q E hr h => ?_)
  · obtain ⟨a, ns, rfl, _⟩ := h
    rfl
  obtain ⟨a, ns, rfl, hsc, _, q⟩ := h
  obtain ⟨tX, hC, kC⟩ := law_c B cA cL cT cP (outer := outer) (cdv := cdv) (f := f) (H0 := H) (E := E) (A := A) (s := s) hr
  obtain ⟨tB, hB, kB⟩ := law_b B cA cL cTr cB hr hC
  refine ⟨_, pss_cons (ps_set (i := 1) scLaw.nd rfl (.inl rfl) (pe_lst (pa_cons (pv 0) (pa_cons pe_int (pa_cons pe_int (pa_cons pe_int pa_nil))))))
    (pss_cons (ps_set (i := 2) scLaw.nd rfl (.inr rfl) (pc cW hr (by decide) (pa_cons (pv 1) (pa_cons pe_int pa_nil))))
    (pss_cons (ps_set (i := 3) scLaw.nd rfl (.inl rfl) (pe_callB call_len_seq (by rfl) B.len PySem.boot_len (pa_cons (pv 2) pa_nil)))
    (pss_cons (ps_set (i := 4) scLaw.nd rfl (.inl rfl) (pc cG hr (by decide) (pa_cons (pv 2) (pa_cons (pe_listRg rfl (by rfl) B.list (prg_1 (by rfl) B.range (pe_op op_add (pv 3) pe_int))) pa_nil))))
    (pss_cons (ps_par (i := 5) (j := 6) rfl scLaw.nd rfl rfl (by decide) rfl rfl (pa_cons
        (pe_callB (cr_sum rfl) (by rfl) B.sum (by decide +kernel) (pa_cons
          (pe_lc (own := [("_law_wire", 12)]) (g := gName 12) (tt := tYes) (te := tOp (rIxT K) (tVar 12) (tC (.int 0))) rfl scLaw.nd (pi_list (pv 4)) (blkOk_by (N := nLaw) (sc := defScope sLaw) (by decide +kernel))
            (fun _ _ _ _ _ => pg_name (i := 12) scLaw.nd rfl (Or.inl rfl)) (fun _ _ _ _ _ => pts_nil) (fun _ _ _ _ _ => pe_ix ix_tup (pv 12) pe_int (fun _ _ => rfl))) pa_nil)) (pa_cons
        (pe_callTy call_tuple_of (by rfl) B.tuple (by decide +kernel) (pa_cons (pe_callB (cr_sortT (d := 2) (B := 1000) (by decide)) (by rfl) B.sorted (by decide +kernel) (pa_cons
          (pe_lc (own := [("_law_wire", 12)]) (g := gName 12) (tt := tYes) (te := tSl (rSlT K) (tVar 12) (tPart (tC (.int 1))) tNoPart) rfl scLaw.nd (pi_list (pv 4)) (blkOk_by (N := nLaw) (sc := defScope sLaw) (by decide +kernel))
            (fun _ _ _ _ _ => pg_name (i := 12) scLaw.nd rfl (Or.inl rfl)) (fun _ _ _ _ _ => pts_nil) (fun _ _ _ _ _ => pe_slice sl_tup (pv 12) (po_some pe_int) po_none)) pa_nil)) pa_nil)) pa_nil)) (by rfl))
    (pss_cons (ps_if (PW.pt (pw_or (pt_not (pt_val (pc cA hr (by decide) (pa_cons (pc cC hr (by decide) (pa_cons (pv 2) pa_nil)) (pa_cons (pv 5) pa_nil))))) (pw_or1 (pt_not (pt_val (pc cA hr (by decide) (pa_cons (pc cF hr (by decide) (pa_cons (pv 2) pa_nil)) (pa_cons (pv 6) pa_nil)))))))) (pss_one (ps_ret pe_bl)) pss_nil)
    (pss_cons (ps_if (pt_cmpR op_notBl (pc cL hr (by decide) (pa_cons (pv 2) (pa_cons (pv 6) pa_nil))) pe_bl (nomark _)) (pss_one (ps_ret pe_bl)) pss_nil) hB)))))), ?_⟩
  -- the row
  refine ⟨_, rfl, (by show 4 ≤ sizeLine; decide), fun R nR => ?_⟩
  have row1 : RowAt K (upd H R (.lst [.ref a, .int 0, .int 5245, .int 0])) R a ns := by
    refine ⟨⟨0, 5245, 0, upd_same, by decide, by decide, by decide⟩, ?_⟩
    rcases hsc with (h | ⟨o, h⟩) | h
    · exact .inl ⟨ne_of_none h nR, .inl (by rw [upd_ne (ne_of_none h nR)]; exact h)⟩
    · exact .inl ⟨ne_of_none h nR, .inr ⟨o, by rw [upd_ne (ne_of_none h nR)]; exact h⟩⟩
    · exact .inr fun H' => .inr h
  generalize upd H R (.lst [.ref a, .int 0, .int 5245, .int 0]) = H1 at row1 ⊢
  clear hsc
  -- the wires
  refine ⟨_, rfl, R, a, ns, rfl, row1, fun H2 x ws row2 sx2 g hx => ?_⟩
  clear row1 sx2 nR
  have h6 := g.hi
  have h1 := g.lo
  obtain ⟨tw, wxs, rfl, hTw, hlw, _⟩ := w_row hx
  refine ⟨_, rfl, tw, wxs, rfl, .inr hTw, ?_⟩
  rw [hlw]
  clear hTw hlw
  -- grown
  refine ⟨_, rfl, _, rfl, _, _, rfl, rfl, _, rfl, RgOk.of_le (Int.le_refl 0) (by omega) (by omega) (by omega), fun L nL => ?_⟩
  refine ⟨.ref tw, L, ws, rfl, hx.same (same_new nL) _, g, .of (by rw [← rg_places]; exact upd_same), fun H3 p xs s3 np ep hp => ?_⟩
  have s23 := (same_new nL).trans s3
  clear nL s3 np
  -- due
  refine ⟨_, rfl, p, rfl, ⟨xs, .of ep⟩, fun C nC => lc_list (K := K) (a := p) (xs := xs) (fun i H' => Same H3 H' ∧ H' C = some (.lst (((grownM ws).take i).map fun e => V.int e.1))) ⟨same_new nC, upd_same⟩ (fun i H' _ s2 => .of (s2.1 _ _ ep)) ?_ ?_⟩
  · rintro i y H2 hi ⟨s2, eC⟩
    obtain ⟨d, hd, hv⟩ := hp.get hi
    rw [List.getElem?_map] at hd
    obtain ⟨e, he, rfl⟩ := Option.map_eq_some_iff.mp hd
    obtain ⟨t, rfl, hT⟩ := e_tup hv
    have hil := (List.getElem?_eq_some_iff.mp he).1
    rw [grown_len g] at hil
    refine ⟨rfl, _, rfl, t, _, 0, .int e.1, rfl, rfl, same_seqT s2 hT, at0, _, eC, sizeS (by rw [List.length_map, List.length_take]; omega), same_set s2 nC, ?_⟩
    rw [upd_same, take_next' he, List.map_append]
    rfl
  rintro H4 ⟨s4, eC⟩
  rw [take_map_all (by rw [hp.len, List.length_map])] at eC
  refine ⟨C, (grownM ws).map fun (e : Ed) => e.1, rfl, .of (by rw [List.map_map]; exact eC), ?_⟩
  rw [show ((grownM ws).map fun (e : Ed) => e.1).sum = due ws from rfl]
  clear eC nC
  have ep4 := s4 _ _ ep
  have hp4 := hp.same s4 _
  -- the tree
  refine ⟨_, rfl, p, rfl, ⟨xs, .of ep4⟩, fun C nC => lc_list (K := K) (a := p) (xs := xs) (fun i H' => ∃ ys, Same H4 H' ∧ H' C = some (.lst ys) ∧ DpAll K H' ys (((grownM ws).take i).map fun e => pD e.2)) ⟨[], same_new nC, upd_same, .nil⟩
    (fun i H' _ ⟨_, s2, _⟩ => .of (s2 _ _ ep4)) ?_ ?_⟩
  · rintro i y H2 hi ⟨ys, s2, eC, hC⟩
    obtain ⟨d, hd, hv⟩ := hp4.get hi
    rw [List.getElem?_map] at hd
    obtain ⟨e, he, rfl⟩ := Option.map_eq_some_iff.mp hd
    obtain ⟨t, rfl, hT⟩ := e_tup hv
    have hil := (List.getElem?_eq_some_iff.mp he).1
    rw [grown_len g] at hil
    refine ⟨rfl, _, rfl, 1, rfl, t, _, rfl, same_seqT s2 hT, (by show ¬ (HT.sIx 3 0 (some 1) = 0 ∧ HT.sIx 3 3 none = 3); decide), fun T nT => ?_⟩
    have nTC : C ≠ T := ne_of_none eC nT
    have eC' : ∀ o, (upd H2 T o) C = some (.lst ys) := fun o => by
      rw [upd_ne nTC]
      exact eC
    have hly : ys.length = i := by rw [hC.len, List.length_map, List.length_take, grown_len g]; omega
    refine ⟨_, eC' _, sizeS (by omega), _, same_set (same_add s2 nT) nC, upd_same, ?_⟩
    rw [take_next' he, List.map_append]
    refine (hC.sameT ((sameT_new nT).trans (sameT_lst (eC' _))) _ (nl_all (fun e => nl_p _) _)).app (.one (mk_p (.of ?_)))
    rw [upd_ne nTC.symm, upd_same]
    rfl
  rintro H5 ⟨ys, s5, eC, hC⟩
  rw [take_map_all (by rw [hp.len, List.length_map])] at hC
  have hC' : DpAll K H5 ys (((grownM ws).map (·.2)).map pD) := by
    rw [List.map_map]
    exact hC
  obtain ⟨k1, k2⟩ := p_ok g hC' (.refl _)
  refine ⟨C, ys, rfl, .of eC, k1, k2, fun zs r pm pw nr => ?_⟩
  refine ⟨r, zs, rfl, .inl ⟨.of upd_same, fun T nT => ?_⟩⟩
  have sm3 := same_add (same_new (o := .lst zs) nr) nT (o := .tup zs)
  have ht : Dp K (upd (upd H5 r (.lst zs)) T (.tup zs)) (.ref T) (tD (tr ws)) := .tup (.of upd_same) ((sorted_p g hC' (.refl _) pm pw).same sm3 _)
  have s26 := ((s23.trans s4).trans s5).trans sm3
  generalize upd (upd H5 r (.lst zs)) T (.tup zs) = H6 at ht s26 ⊢
  clear sm3 nT pm pw nr k1 k2 hC' hC eC s5 nC ep4 hp4 s4 s23 ep hp
  refine ⟨_, _, rfl, ?_⟩
  have hx6 := hx.same s26 _
  have row6 := row2.same s26
  clear hx row2 s26
  -- the first question
  refine ⟨_, rfl, _, ws, rfl, hx6, g, fun H7 s7 => ?_⟩
  refine ⟨_, rfl, _, _, _, _, rfl, .inl (.int _), .int _, True.intro, fun H8 s8 => ?_⟩
  rw [alk_int, decide_eq_true rfl]
  refine ⟨_, rfl, iteF ?_⟩
  have s78 := s7.trans s8
  refine ⟨_, rfl, _, ws, rfl, hx6.same s78 _, g, fun H9 v s9 hv => ?_⟩
  have s79 := s78.trans s9
  refine ⟨_, rfl, _, _, tD (tr ws), tD (tr ws), rfl, .inl hv, ht.same s79 _, lvl_t (by rw [tr_len g]; omega), fun H10 s10 => ?_⟩
  rw [alk_pairs, decide_eq_true rfl]
  refine ⟨_, rfl, iteF ?_⟩
  have s710 := s79.trans s10
  -- the second question
  refine ⟨_, rfl, _, rfl, _, _, ws, _, rfl, hx6.same s710 _, g, known_tree (ht.same s710 _) (tr_ok g), fun H11 s11 => ?_⟩
  rw [decide_eq_true (tr_sum g)]
  refine ⟨_, _, rfl, rfl, _, rfl, iteF ?_⟩
  have s711 := s710.trans s11
  exact kB _ H11 _ _ _ _ _ ws R g (hx6.same s711 _) fun s7 s8 H12 s12 => kC _ H12 _ _ _ _ s7 s8 ws R a ns g ((hx6.same s711 _).same s12 _) ((row6.same s711).same s12) ((ht.same s711 _).same s12 _) q
end
end SW
/-! B22: the program's top, and the end (lines printed by mkend.py). -/
namespace SW
open PySem PySem.Spec PyProof.Rows L2 SW0 SWM
theorem all_mk {l : PySem.W.OpenLaw} {w : World} {K : PySem.W.Frag} {h : Heap} {mg : Str → Option Value} {fa f1 f2 f3 f4 f5 f6 f7 f8 f9 f10 f11 f12 f13 f14 f15 f16 f17 f18 f19 f20 f21 f22 f23 f24 f25 : Addr} (X : K.In h) (G : h.Ns mainGlobals mg) (hfa : mg "law" = some (.ref fa))
    {od1 an1 od2 an2 od3 an3 od4 an4 od5 an5 od6 an6 od7 an7 od8 an8 od9 an9 od10 an10 od11 an11 od12 an12 od13 an13 od14 an14 od15 an15 od16 an16 od17 an17 od18 an18 od19 an19 od20 an20 od21 an21 od22 an22 od23 an23 od24 an24 od25 an25 : Option Addr} {sl1 sl2 sl3 sl4 sl5 sl6 sl7 sl8 sl9 sl10 sl11 sl12 sl13 sl14 sl15 sl16 sl17 sl18 sl19 sl20 sl21 sl22 sl23 sl24 sl25 : Array (Option Value)} {oc1 kV1 dc1 pm1 cd1 ct1 oc2 kV2 dc2 pm2 cd2 ct2 oc3 kV3 dc3 pm3 cd3 ct3 oc4 kV4 dc4 pm4 cd4 ct4 oc5 kV5 dc5 pm5 cd5 ct5 oc6 kV6 dc6 pm6 cd6 ct6 oc7 kV7 dc7 pm7 cd7 ct7 oc8 kV8 dc8 pm8 cd8 ct8 oc9 kV9 dc9 pm9 cd9 ct9 oc10 kV10 dc10 pm10 cd10 ct10 oc11 kV11 dc11 pm11 cd11 ct11 oc12 kV12 dc12 pm12 cd12 ct12 oc13 kV13 dc13 pm13 cd13 ct13 oc14 kV14 dc14 pm14 cd14 ct14 oc15 kV15 dc15 pm15 cd15 ct15 oc16 kV16 dc16 pm16 cd16 ct16 oc17 kV17 dc17 pm17 cd17 ct17 oc18 kV18 dc18 pm18 cd18 ct18 oc19 kV19 dc19 pm19 cd19 ct19 oc20 kV20 dc20 pm20 cd20 ct20 oc21 kV21 dc21 pm21 cd21 ct21 oc22 kV22 dc22 pm22 cd22 ct22 oc23 kV23 dc23 pm23 cd23 ct23 oc24 kV24 dc24 pm24 cd24 ct24 oc25 kV25 dc25 pm25 cd25 ct25 : Value} {t1 t2 : Tok}
    (a1 : PySem.W.nsIn K mainGlobals "whole" = some (some (.ref f1))) (l1 : K.lookup f1 = some ⟨oc1, od1, .func (PySem.W.fnOf "whole" "whole" (defArgs sWhole) (defBody sWhole) (defScope sWhole) .none kV1 dc1 pm1 an1 cd1 ct1), sl1⟩) (c1 : PySem.W.codeIn K cd1 "whole" = true) (k1 : PySem.W.keepIn K (.ref f1) = true)
    (a2 : PySem.W.nsIn K mainGlobals "within" = some (some (.ref f2))) (l2 : K.lookup f2 = some ⟨oc2, od2, .func (PySem.W.fnOf "within" "within" (defArgs sWithin) (defBody sWithin) (defScope sWithin) .none kV2 dc2 pm2 an2 cd2 ct2), sl2⟩) (c2 : PySem.W.codeIn K cd2 "within" = true) (k2 : PySem.W.keepIn K (.ref f2) = true)
    (a3 : PySem.W.nsIn K mainGlobals "tuple_of" = some (some (.ref f3))) (l3 : K.lookup f3 = some ⟨oc3, od3, .func (PySem.W.fnOf "tuple_of" "tuple_of" (defArgs sTupleOf) (defBody sTupleOf) (defScope sTupleOf) .none kV3 dc3 pm3 an3 cd3 ct3), sl3⟩) (c3 : PySem.W.codeIn K cd3 "tuple_of" = true) (k3 : PySem.W.keepIn K (.ref f3) = true)
    (a4 : PySem.W.nsIn K mainGlobals "need_wires" = some (some (.ref f4))) (l4 : K.lookup f4 = some ⟨oc4, od4, .func (PySem.W.fnOf "need_wires" "need_wires" (defArgs sNeed) (defBody sNeed) (defScope sNeed) .none kV4 dc4 pm4 an4 cd4 ct4), sl4⟩) (c4 : PySem.W.codeIn K cd4 "need_wires" = true) (k4 : PySem.W.keepIn K (.ref f4) = true)
    (a5 : PySem.W.nsIn K mainGlobals "cost_between" = some (some (.ref f5))) (l5 : K.lookup f5 = some ⟨oc5, od5, .func (PySem.W.fnOf "cost_between" "cost_between" (defArgs sCost) (defBody sCost) (defScope sCost) .none kV5 dc5 pm5 an5 cd5 ct5), sl5⟩) (c5 : PySem.W.codeIn K cd5 "cost_between" = true) (k5 : PySem.W.keepIn K (.ref f5) = true)
    (a6 : PySem.W.nsIn K mainGlobals "sorted_wires" = some (some (.ref f6))) (l6 : K.lookup f6 = some ⟨oc6, od6, .func (PySem.W.fnOf "sorted_wires" "sorted_wires" (defArgs sSort) (defBody sSort) (defScope sSort) .none kV6 dc6 pm6 an6 cd6 ct6), sl6⟩) (c6 : PySem.W.codeIn K cd6 "sorted_wires" = true) (k6 : PySem.W.keepIn K (.ref f6) = true)
    (a7 : PySem.W.nsIn K mainGlobals "grown" = some (some (.ref f7))) (l7 : K.lookup f7 = some ⟨oc7, od7, .func (PySem.W.fnOf "grown" "grown" (defArgs sGrown) (defBody sGrown) (defScope sGrown) .none kV7 dc7 pm7 an7 cd7 ct7), sl7⟩) (c7 : PySem.W.codeIn K cd7 "grown" = true) (k7 : PySem.W.keepIn K (.ref f7) = true)
    (a8 : PySem.W.nsIn K mainGlobals "all_places" = some (some (.ref f8))) (l8 : K.lookup f8 = some ⟨oc8, od8, .func (PySem.W.fnOf "all_places" "all_places" (defArgs sPlaces) (defBody sPlaces) (defScope sPlaces) .none kV8 dc8 pm8 an8 cd8 ct8), sl8⟩) (c8 : PySem.W.codeIn K cd8 "all_places" = true) (k8 : PySem.W.keepIn K (.ref f8) = true)
    (a9 : PySem.W.nsIn K mainGlobals "tree_cost" = some (some (.ref f9))) (l9 : K.lookup f9 = some ⟨oc9, od9, .func (PySem.W.fnOf "tree_cost" "tree_cost" (defArgs sTCost) (defBody sTCost) (defScope sTCost) .none kV9 dc9 pm9 an9 cd9 ct9), sl9⟩) (c9 : PySem.W.codeIn K cd9 "tree_cost" = true) (k9 : PySem.W.keepIn K (.ref f9) = true)
    (a10 : PySem.W.nsIn K mainGlobals "first_tree" = some (some (.ref f10))) (l10 : K.lookup f10 = some ⟨oc10, od10, .func (PySem.W.fnOf "first_tree" "first_tree" (defArgs sFirst) (defBody sFirst) (defScope sFirst) .none kV10 dc10 pm10 an10 cd10 ct10), sl10⟩) (c10 : PySem.W.codeIn K cd10 "first_tree" = true) (k10 : PySem.W.keepIn K (.ref f10) = true)
    (a11 : PySem.W.nsIn K mainGlobals "reached_from" = some (some (.ref f11))) (l11 : K.lookup f11 = some ⟨oc11, od11, .func (PySem.W.fnOf "reached_from" "reached_from" (defArgs sReach) (defBody sReach) (defScope sReach) .none kV11 dc11 pm11 an11 cd11 ct11), sl11⟩) (c11 : PySem.W.codeIn K cd11 "reached_from" = true) (k11 : PySem.W.keepIn K (.ref f11) = true)
    (a12 : PySem.W.nsIn K mainGlobals "is_tree" = some (some (.ref f12))) (l12 : K.lookup f12 = some ⟨oc12, od12, .func (PySem.W.fnOf "is_tree" "is_tree" (defArgs sIs) (defBody sIs) (defScope sIs) .none kV12 dc12 pm12 an12 cd12 ct12), sl12⟩) (c12 : PySem.W.codeIn K cd12 "is_tree" = true) (k12 : PySem.W.keepIn K (.ref f12) = true)
    (a13 : PySem.W.nsIn K mainGlobals "tree_sum" = some (some (.ref f13))) (l13 : K.lookup f13 = some ⟨oc13, od13, .func (PySem.W.fnOf "tree_sum" "tree_sum" (defArgs sTSum) (defBody sTSum) (defScope sTSum) .none kV13 dc13 pm13 an13 cd13 ct13), sl13⟩) (c13 : PySem.W.codeIn K cd13 "tree_sum" = true) (k13 : PySem.W.keepIn K (.ref f13) = true)
    (a14 : PySem.W.nsIn K mainGlobals "is_least_tree" = some (some (.ref f14))) (l14 : K.lookup f14 = some ⟨oc14, od14, .func (PySem.W.fnOf "is_least_tree" "is_least_tree" (defArgs sLeast) (defBody sLeast) (defScope sLeast) .none kV14 dc14 pm14 an14 cd14 ct14), sl14⟩) (c14 : PySem.W.codeIn K cd14 "is_least_tree" = true) (k14 : PySem.W.keepIn K (.ref f14) = true)
    (a15 : PySem.W.nsIn K mainGlobals "_law_taken" = some (some (.ref f15))) (l15 : K.lookup f15 = some ⟨oc15, od15, .func (PySem.W.fnOf "_law_taken" "_law_taken" (defArgs sTaken) (defBody sTaken) (defScope sTaken) .none kV15 dc15 pm15 an15 cd15 ct15), sl15⟩) (c15 : PySem.W.codeIn K cd15 "_law_taken" = true) (k15 : PySem.W.keepIn K (.ref f15) = true)
    (a16 : PySem.W.nsIn K mainGlobals "_law_pick" = some (some (.ref f16))) (l16 : K.lookup f16 = some ⟨oc16, od16, .func (PySem.W.fnOf "_law_pick" "_law_pick" (defArgs sPick) (defBody sPick) (defScope sPick) .none kV16 dc16 pm16 an16 cd16 ct16), sl16⟩) (c16 : PySem.W.codeIn K cd16 "_law_pick" = true) (k16 : PySem.W.keepIn K (.ref f16) = true)
    (a17 : PySem.W.nsIn K mainGlobals "_law_wires" = some (some (.ref f17))) (l17 : K.lookup f17 = some ⟨oc17, od17, .func (PySem.W.fnOf "_law_wires" "_law_wires" (defArgs sLWires) (defBody sLWires) (defScope sLWires) .none kV17 dc17 pm17 an17 cd17 ct17), sl17⟩) (c17 : PySem.W.codeIn K cd17 "_law_wires" = true) (k17 : PySem.W.keepIn K (.ref f17) = true)
    (a18 : PySem.W.nsIn K mainGlobals "_law_between" = some (some (.ref f18))) (l18 : K.lookup f18 = some ⟨oc18, od18, .func (PySem.W.fnOf "_law_between" "_law_between" (defArgs sBetw) (defBody sBetw) (defScope sBetw) .none kV18 dc18 pm18 an18 cd18 ct18), sl18⟩) (c18 : PySem.W.codeIn K cd18 "_law_between" = true) (k18 : PySem.W.keepIn K (.ref f18) = true)
    (a19 : PySem.W.nsIn K mainGlobals "_law_grown" = some (some (.ref f19))) (l19 : K.lookup f19 = some ⟨oc19, od19, .func (PySem.W.fnOf "_law_grown" "_law_grown" (defArgs sLG) (defBody sLG) (defScope sLG) .none kV19 dc19 pm19 an19 cd19 ct19), sl19⟩) (c19 : PySem.W.codeIn K cd19 "_law_grown" = true) (k19 : PySem.W.keepIn K (.ref f19) = true)
    (a20 : PySem.W.nsIn K mainGlobals "_law_alike" = some (some (.ref f20))) (l20 : K.lookup f20 = some ⟨oc20, od20, .func (PySem.W.fnOf "_law_alike" "_law_alike" (defArgs sAlike) (defBody sAlike) (defScope sAlike) .none kV20 dc20 pm20 an20 cd20 ct20), sl20⟩) (c20 : PySem.W.codeIn K cd20 "_law_alike" = true) (k20 : PySem.W.keepIn K (.ref f20) = true)
    (a21 : PySem.W.nsIn K mainGlobals "_law_group" = some (some (.ref f21))) (l21 : K.lookup f21 = some ⟨oc21, od21, .func (PySem.W.fnOf "_law_group" "_law_group" (defArgs sGroup) (defBody sGroup) (defScope sGroup) .none kV21 dc21 pm21 an21 cd21 ct21), sl21⟩) (c21 : PySem.W.codeIn K cd21 "_law_group" = true) (k21 : PySem.W.keepIn K (.ref f21) = true)
    (a22 : PySem.W.nsIn K mainGlobals "_law_mark" = some (some (.ref f22))) (l22 : K.lookup f22 = some ⟨oc22, od22, .func (PySem.W.fnOf "_law_mark" "_law_mark" (defArgs sMark) (defBody sMark) (defScope sMark) .none kV22 dc22 pm22 an22 cd22 ct22), sl22⟩) (c22 : PySem.W.codeIn K cd22 "_law_mark" = true) (k22 : PySem.W.keepIn K (.ref f22) = true)
    (a23 : PySem.W.nsIn K mainGlobals "_law_pieces" = some (some (.ref f23))) (l23 : K.lookup f23 = some ⟨oc23, od23, .func (PySem.W.fnOf "_law_pieces" "_law_pieces" (defArgs sPieces) (defBody sPieces) (defScope sPieces) .none kV23 dc23 pm23 an23 cd23 ct23), sl23⟩) (c23 : PySem.W.codeIn K cd23 "_law_pieces" = true) (k23 : PySem.W.keepIn K (.ref f23) = true)
    (a24 : PySem.W.nsIn K mainGlobals "_law_all_trees" = some (some (.ref f24))) (l24 : K.lookup f24 = some ⟨oc24, od24, .func (PySem.W.fnOf "_law_all_trees" "_law_all_trees" (defArgs sTrees) (defBody sTrees) (defScope sTrees) .none kV24 dc24 pm24 an24 cd24 ct24), sl24⟩) (c24 : PySem.W.codeIn K cd24 "_law_all_trees" = true) (k24 : PySem.W.keepIn K (.ref f24) = true)
    (a25 : PySem.W.nsIn K mainGlobals "law" = some (some (.ref f25))) (l25 : K.lookup f25 = some ⟨oc25, od25, .func (PySem.W.fnOf "law" "law" (defArgs sLaw) (defBody sLaw) (defScope sLaw) .none kV25 dc25 pm25 an25 cd25 ct25), sl25⟩) (c25 : PySem.W.codeIn K cd25 "law" = true) (k25 : PySem.W.keepIn K (.ref f25) = true)
    (g1 : PySem.W.nsIn K mainGlobals "MOST_HOUSES" = some (some (.int 6 t1))) (g2 : PySem.W.nsIn K mainGlobals "MOST_COST" = some (some (.int 999 t2)))
    (z1 : PySem.W.nsIn K mainGlobals "isinstance" = some none) (z2 : PySem.W.nsIn K mainGlobals "int" = some none) (z3 : PySem.W.nsIn K mainGlobals "bool" = some none) (z4 : PySem.W.nsIn K mainGlobals "str" = some none) (z5 : PySem.W.nsIn K mainGlobals "tuple" = some none) (z6 : PySem.W.nsIn K mainGlobals "list" = some none) (z7 : PySem.W.nsIn K mainGlobals "set" = some none) (z8 : PySem.W.nsIn K mainGlobals "len" = some none) (z9 : PySem.W.nsIn K mainGlobals "range" = some none) (z10 : PySem.W.nsIn K mainGlobals "enumerate" = some none) (z11 : PySem.W.nsIn K mainGlobals "all" = some none) (z12 : PySem.W.nsIn K mainGlobals "max" = some none) (z13 : PySem.W.nsIn K mainGlobals "min" = some none) (z14 : PySem.W.nsIn K mainGlobals "sum" = some none) (z15 : PySem.W.nsIn K mainGlobals "sorted" = some none) (z16 : PySem.W.nsIn K mainGlobals "abs" = some none) :
    ∃ fd : FuncData, (∀ (s : Shared) (v : Value), BindsTo s fd ⟨[v], []⟩ [("_law_script", v)]) ∧ ∀ base : Heap, K.In base → base.Ns mainGlobals mg → FnOk l.prog w K mg base CX0 7 fa fd ["_law_script"] (spLaw K) := by
  have e := hfa.symm.trans (PySem.W.mg_of X G a25)
  cases e
  have B : Bi mg := ⟨PySem.W.mg_none_of X G z1, PySem.W.mg_none_of X G z2, PySem.W.mg_none_of X G z3, PySem.W.mg_none_of X G z4, PySem.W.mg_none_of X G z5, PySem.W.mg_none_of X G z6, PySem.W.mg_none_of X G z7, PySem.W.mg_none_of X G z8, PySem.W.mg_none_of X G z9, PySem.W.mg_none_of X G z10, PySem.W.mg_none_of X G z11, PySem.W.mg_none_of X G z12, PySem.W.mg_none_of X G z13, PySem.W.mg_none_of X G z14, PySem.W.mg_none_of X G z15, PySem.W.mg_none_of X G z16⟩
  have F1 := fun_mk (st := sWhole) l1 c1 k1
  have D1 : Df K mg "whole" sWhole ["value"] := ⟨_, _, F1, PySem.W.mg_of X G a1, F1.binds (ps := ["value"]) fun _ _ _ _ _ _ us hl => match us, hl with | [_], _ => rfl⟩
  have F2 := fun_mk (st := sWithin) l2 c2 k2
  have D2 : Df K mg "within" sWithin ["value", "low", "high"] := ⟨_, _, F2, PySem.W.mg_of X G a2, F2.binds (ps := ["value", "low", "high"]) fun _ _ _ _ _ _ us hl => match us, hl with | [_, _, _], _ => rfl⟩
  have F3 := fun_mk (st := sTupleOf) l3 c3 k3
  have D3 : Df K mg "tuple_of" sTupleOf ["value", "low", "high"] := ⟨_, _, F3, PySem.W.mg_of X G a3, F3.binds (ps := ["value", "low", "high"]) fun _ _ _ _ _ _ us hl => match us, hl with | [_, _, _], _ => rfl⟩
  have F4 := fun_mk (st := sNeed) l4 c4 k4
  have D4 : Df K mg "need_wires" sNeed ["value"] := ⟨_, _, F4, PySem.W.mg_of X G a4, F4.binds (ps := ["value"]) fun _ _ _ _ _ _ us hl => match us, hl with | [_], _ => rfl⟩
  have F5 := fun_mk (st := sCost) l5 c5 k5
  have D5 : Df K mg "cost_between" sCost ["wires", "one", "other"] := ⟨_, _, F5, PySem.W.mg_of X G a5, F5.binds (ps := ["wires", "one", "other"]) fun _ _ _ _ _ _ us hl => match us, hl with | [_, _, _], _ => rfl⟩
  have F6 := fun_mk (st := sSort) l6 c6 k6
  have D6 : Df K mg "sorted_wires" sSort ["wires", "places"] := ⟨_, _, F6, PySem.W.mg_of X G a6, F6.binds (ps := ["wires", "places"]) fun _ _ _ _ _ _ us hl => match us, hl with | [_, _], _ => rfl⟩
  have F7 := fun_mk (st := sGrown) l7 c7 k7
  have D7 : Df K mg "grown" sGrown ["wires", "places"] := ⟨_, _, F7, PySem.W.mg_of X G a7, F7.binds (ps := ["wires", "places"]) fun _ _ _ _ _ _ us hl => match us, hl with | [_, _], _ => rfl⟩
  have F8 := fun_mk (st := sPlaces) l8 c8 k8
  have D8 : Df K mg "all_places" sPlaces ["wires"] := ⟨_, _, F8, PySem.W.mg_of X G a8, F8.binds (ps := ["wires"]) fun _ _ _ _ _ _ us hl => match us, hl with | [_], _ => rfl⟩
  have F9 := fun_mk (st := sTCost) l9 c9 k9
  have D9 : Df K mg "tree_cost" sTCost ["wires"] := ⟨_, _, F9, PySem.W.mg_of X G a9, F9.binds (ps := ["wires"]) fun _ _ _ _ _ _ us hl => match us, hl with | [_], _ => rfl⟩
  have F10 := fun_mk (st := sFirst) l10 c10 k10
  have D10 : Df K mg "first_tree" sFirst ["wires"] := ⟨_, _, F10, PySem.W.mg_of X G a10, F10.binds (ps := ["wires"]) fun _ _ _ _ _ _ us hl => match us, hl with | [_], _ => rfl⟩
  have F11 := fun_mk (st := sReach) l11 c11 k11
  have D11 : Df K mg "reached_from" sReach ["pairs", "start"] := ⟨_, _, F11, PySem.W.mg_of X G a11, F11.binds (ps := ["pairs", "start"]) fun _ _ _ _ _ _ us hl => match us, hl with | [_, _], _ => rfl⟩
  have F12 := fun_mk (st := sIs) l12 c12 k12
  have D12 : Df K mg "is_tree" sIs ["wires", "value"] := ⟨_, _, F12, PySem.W.mg_of X G a12, F12.binds (ps := ["wires", "value"]) fun _ _ _ _ _ _ us hl => match us, hl with | [_, _], _ => rfl⟩
  have F13 := fun_mk (st := sTSum) l13 c13 k13
  have D13 : Df K mg "tree_sum" sTSum ["wires"] := ⟨_, _, F13, PySem.W.mg_of X G a13, F13.binds (ps := ["wires"]) fun _ _ _ _ _ _ us hl => match us, hl with | [_], _ => rfl⟩
  have F14 := fun_mk (st := sLeast) l14 c14 k14
  have D14 : Df K mg "is_least_tree" sLeast ["wires", "value"] := ⟨_, _, F14, PySem.W.mg_of X G a14, F14.binds (ps := ["wires", "value"]) fun _ _ _ _ _ _ us hl => match us, hl with | [_, _], _ => rfl⟩
  have F15 := fun_mk (st := sTaken) l15 c15 k15
  have D15 : Df K mg "_law_taken" sTaken ["_law_row", "_law_many"] := ⟨_, _, F15, PySem.W.mg_of X G a15, F15.binds (ps := ["_law_row", "_law_many"]) fun _ _ _ _ _ _ us hl => match us, hl with | [_, _], _ => rfl⟩
  have F16 := fun_mk (st := sPick) l16 c16 k16
  have D16 : Df K mg "_law_pick" sPick ["_law_row", "_law_things"] := ⟨_, _, F16, PySem.W.mg_of X G a16, F16.binds (ps := ["_law_row", "_law_things"]) fun _ _ _ _ _ _ us hl => match us, hl with | [_, _], _ => rfl⟩
  have F17 := fun_mk (st := sLWires) l17 c17 k17
  have D17 : Df K mg "_law_wires" sLWires ["_law_row", "_law_most"] := ⟨_, _, F17, PySem.W.mg_of X G a17, F17.binds (ps := ["_law_row", "_law_most"]) fun _ _ _ _ _ _ us hl => match us, hl with | [_, _], _ => rfl⟩
  have F18 := fun_mk (st := sBetw) l18 c18 k18
  have D18 : Df K mg "_law_between" sBetw ["_law_wires_here", "_law_one", "_law_other"] := ⟨_, _, F18, PySem.W.mg_of X G a18, F18.binds (ps := ["_law_wires_here", "_law_one", "_law_other"]) fun _ _ _ _ _ _ us hl => match us, hl with | [_, _, _], _ => rfl⟩
  have F19 := fun_mk (st := sLG) l19 c19 k19
  have D19 : Df K mg "_law_grown" sLG ["_law_wires_here", "_law_places"] := ⟨_, _, F19, PySem.W.mg_of X G a19, F19.binds (ps := ["_law_wires_here", "_law_places"]) fun _ _ _ _ _ _ us hl => match us, hl with | [_, _], _ => rfl⟩
  have F20 := fun_mk (st := sAlike) l20 c20 k20
  have D20 : Df K mg "_law_alike" sAlike ["_law_found", "_law_due"] := ⟨_, _, F20, PySem.W.mg_of X G a20, F20.binds (ps := ["_law_found", "_law_due"]) fun _ _ _ _ _ _ us hl => match us, hl with | [_, _], _ => rfl⟩
  have F21 := fun_mk (st := sGroup) l21 c21 k21
  have D21 : Df K mg "_law_group" sGroup ["_law_mark_here"] := ⟨_, _, F21, PySem.W.mg_of X G a21, F21.binds (ps := ["_law_mark_here"]) fun _ _ _ _ _ _ us hl => match us, hl with | [_], _ => rfl⟩
  have F22 := fun_mk (st := sMark) l22 c22 k22
  have D22 : Df K mg "_law_mark" sMark ["_law_group_here"] := ⟨_, _, F22, PySem.W.mg_of X G a22, F22.binds (ps := ["_law_group_here"]) fun _ _ _ _ _ _ us hl => match us, hl with | [_], _ => rfl⟩
  have F23 := fun_mk (st := sPieces) l23 c23 k23
  have D23 : Df K mg "_law_pieces" sPieces ["_law_links", "_law_mark_here"] := ⟨_, _, F23, PySem.W.mg_of X G a23, F23.binds (ps := ["_law_links", "_law_mark_here"]) fun _ _ _ _ _ _ us hl => match us, hl with | [_, _], _ => rfl⟩
  have F24 := fun_mk (st := sTrees) l24 c24 k24
  have D24 : Df K mg "_law_all_trees" sTrees ["_law_many"] := ⟨_, _, F24, PySem.W.mg_of X G a24, F24.binds (ps := ["_law_many"]) fun _ _ _ _ _ _ us hl => match us, hl with | [_], _ => rfl⟩
  refine ⟨PySem.W.fnOf "law" "law" (defArgs sLaw) (defBody sLaw) (defScope sLaw) .none kV25 dc25 pm25 an25 cd25 ct25, fun s v => .of_eq rfl, fun base _ _ => ?_⟩
  have gH := PySem.W.mg_of X G g1
  have gC := PySem.W.mg_of X G g2
  have x1 := ok_whole (P := l.prog) (w := w) (base := base) B D1
  have x2 := ok_within D2 x1
  have x3 := ok_tupleOf (P := l.prog) (w := w) (base := base) B D3
  have x4 := ok_cost (P := l.prog) (w := w) (base := base) B D5
  have x5 := ok_places' (P := l.prog) (w := w) (base := base) B D8
  have x6 := ok_need B D4 x3 x2 gH gC
  have x7 := ok_sort B D6 x4
  have x8 := ok_grown B D7 x7
  have x9 := ok_tsum B D13 x8 x5
  have x10 := ok_tcost B D9 x6 x8 x5
  have x11 := ok_first B D10 x6 x8 x5
  have x12 := ok_reach (P := l.prog) (w := w) (base := base) D11
  have x13 := ok_is B D12 x3 x2 x12 x4 x9
  have x14 := ok_least D14 x6 x13
  have x15 := ok_taken (P := l.prog) (w := w) (base := base) B D15
  have x16 := ok_pick B D16 x15
  have x17 := ok_lwires B D17 x15 x16
  have x18 := ok_betw (P := l.prog) (w := w) (base := base) B D18
  have x19 := ok_lgrown B D19 x18
  have x20 := ok_alike B D20 2 (ok_alike B D20 1 (ok_alike B D20 0 (alike0 (P := l.prog) (w := w) (base := base) D20)))
  have x21 := ok_group (P := l.prog) (w := w) (base := base) B D21
  have x22 := ok_mark (P := l.prog) (w := w) (base := base) B D22
  have x23 := ok_pieces B D23 x21 x22
  have x24 := ok_trees B D24 x23
  exact ok_law (fun_mk (st := sLaw) l25 c25 k25) B x20 x14 x15 x16 x24 x18 x17 x19 x10 x11
theorem walk {l : PySem.W.OpenLaw} {q : Program} {loose : List Str} {XP : (Str → Option Value) → Heap → Prop} {YP : World → Heap → Prop} {d : DefRec} {K : Params → PySem.W.Frag} (hn : l.most = some 63) (hdf : d.params.defaults = [])
    (hY : ∀ (w : World) (h : Heap), YP w h → (K w.params).In h)
    (F : ∀ (w : World) (mg : Str → Option Value) (fa : Addr) (h : Heap), (K w.params).In h → h.Ns mainGlobals mg → mg d.name = some (.ref fa) →
      ∃ fd : FuncData, (∀ (s : Shared) (u : Value), BindsTo s fd ⟨[u], []⟩ [("_law_script", u)]) ∧ ∀ base : Heap, (K w.params).In base → base.Ns mainGlobals mg → FnOk l.prog w (K w.params) mg base CX0 7 fa fd ["_law_script"] (spLaw (K w.params))) :
    PySem.W.WalkO q loose XP YP l.row.toRowW d [] (fun f vs => PySem.call f vs) :=
  L2.walk_of (n := 63) (k := 7) (x := "_law_script") (CX := fun _ => CX0) (sp := fun w => spLaw (K w.params)) hn (by decide) hdf ⟨rfl, by decide, by decide⟩ hY F (fun _ _ a ns hl _ hS => ⟨a, ns, rfl, hS, hl, fun _ => rfl⟩) fun _ _ _ _ _ z => z
end SW
open PySem PySem.W PyProof.Rows in
set_option maxRecDepth 100000 in
set_option maxHeartbeats 0 in
theorem PySem.Challenge.cw_sharewell_k45_whole_least_trees_holds : PySem.Challenge.rw_sharewell_k45_whole_least_trees.Holds := by
  w_on; o_law; k_head; (case hw => w_witness2)
  k_fill
  refine SW.walk (l := PySem.Challenge.rw_sharewell_k45_whole_least_trees) rfl rfl (fun w h Y => PySem.W.kIn_of Y) ?F
  case F =>
    intro w mg fa h KX G hmg
    refine' SW.all_mk KX G hmg ?a1 ?l1 ?c1 ?k1 ?a2 ?l2 ?c2 ?k2 ?a3 ?l3 ?c3 ?k3 ?a4 ?l4 ?c4 ?k4 ?a5 ?l5 ?c5 ?k5 ?a6 ?l6 ?c6 ?k6 ?a7 ?l7 ?c7 ?k7 ?a8 ?l8 ?c8 ?k8 ?a9 ?l9 ?c9 ?k9 ?a10 ?l10 ?c10 ?k10 ?a11 ?l11 ?c11 ?k11 ?a12 ?l12 ?c12 ?k12 ?a13 ?l13 ?c13 ?k13 ?a14 ?l14 ?c14 ?k14 ?a15 ?l15 ?c15 ?k15 ?a16 ?l16 ?c16 ?k16 ?a17 ?l17 ?c17 ?k17 ?a18 ?l18 ?c18 ?k18 ?a19 ?l19 ?c19 ?k19 ?a20 ?l20 ?c20 ?k20 ?a21 ?l21 ?c21 ?k21 ?a22 ?l22 ?c22 ?k22 ?a23 ?l23 ?c23 ?k23 ?a24 ?l24 ?c24 ?k24 ?a25 ?l25 ?c25 ?k25 ?g1 ?g2 ?z1 ?z2 ?z3 ?z4 ?z5 ?z6 ?z7 ?z8 ?z9 ?z10 ?z11 ?z12 ?z13 ?z14 ?z15 ?z16
    (case a1 => k_is); (case l1 => k_is); (case c1 => k_is); (case k1 => k_is)
    (case a2 => k_is); (case l2 => k_is); (case c2 => k_is); (case k2 => k_is)
    (case a3 => k_is); (case l3 => k_is); (case c3 => k_is); (case k3 => k_is)
    (case a4 => k_is); (case l4 => k_is); (case c4 => k_is); (case k4 => k_is)
    (case a5 => k_is); (case l5 => k_is); (case c5 => k_is); (case k5 => k_is)
    (case a6 => k_is); (case l6 => k_is); (case c6 => k_is); (case k6 => k_is)
    (case a7 => k_is); (case l7 => k_is); (case c7 => k_is); (case k7 => k_is)
    (case a8 => k_is); (case l8 => k_is); (case c8 => k_is); (case k8 => k_is)
    (case a9 => k_is); (case l9 => k_is); (case c9 => k_is); (case k9 => k_is)
    (case a10 => k_is); (case l10 => k_is); (case c10 => k_is); (case k10 => k_is)
    (case a11 => k_is); (case l11 => k_is); (case c11 => k_is); (case k11 => k_is)
    (case a12 => k_is); (case l12 => k_is); (case c12 => k_is); (case k12 => k_is)
    (case a13 => k_is); (case l13 => k_is); (case c13 => k_is); (case k13 => k_is)
    (case a14 => k_is); (case l14 => k_is); (case c14 => k_is); (case k14 => k_is)
    (case a15 => k_is); (case l15 => k_is); (case c15 => k_is); (case k15 => k_is)
    (case a16 => k_is); (case l16 => k_is); (case c16 => k_is); (case k16 => k_is)
    (case a17 => k_is); (case l17 => k_is); (case c17 => k_is); (case k17 => k_is)
    (case a18 => k_is); (case l18 => k_is); (case c18 => k_is); (case k18 => k_is)
    (case a19 => k_is); (case l19 => k_is); (case c19 => k_is); (case k19 => k_is)
    (case a20 => k_is); (case l20 => k_is); (case c20 => k_is); (case k20 => k_is)
    (case a21 => k_is); (case l21 => k_is); (case c21 => k_is); (case k21 => k_is)
    (case a22 => k_is); (case l22 => k_is); (case c22 => k_is); (case k22 => k_is)
    (case a23 => k_is); (case l23 => k_is); (case c23 => k_is); (case k23 => k_is)
    (case a24 => k_is); (case l24 => k_is); (case c24 => k_is); (case k24 => k_is)
    (case a25 => k_is); (case l25 => k_is); (case c25 => k_is); (case k25 => k_is)
    (case g1 => k_is); (case g2 => k_is)
    (case z1 => k_is); (case z2 => k_is); (case z3 => k_is); (case z4 => k_is); (case z5 => k_is); (case z6 => k_is); (case z7 => k_is); (case z8 => k_is); (case z9 => k_is); (case z10 => k_is); (case z11 => k_is); (case z12 => k_is); (case z13 => k_is); (case z14 => k_is); (case z15 => k_is); (case z16 => k_is)
