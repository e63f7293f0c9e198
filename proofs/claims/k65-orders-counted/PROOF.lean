import PyProof.Rows.All
import Wide.All
import OpenK.AllK
import Wide.FinOn
import HandS.ForMost
import HandS.Evl
import HandS.Defaults
import HandS.Deep
import HandS.Sort
import HandS.DictComp
import HandS.DictTup
import HandS.TupAny
import HandS.ListItems
import KE.KDictDisplayH
import KE.KDictCopyH
import HandS.GenList
import HandS.IsInst
import HandS.TupSets
import PySem.Challenge.RW_keptbase_k65_orders_counted
set_option Elab.async false
set_option maxRecDepth 100000
set_option maxHeartbeats 4000000
/-! The plain mathematics of orders that keep all arrows. -/
namespace K65
abbrev Arr := List (Int × Int)

def nodes (n : Nat) : List Int := (List.range n).map fun (i : Nat) => (1 : Int) + (i : Int)
def held (ar : Arr) (p : List Int) : List Int := (ar.filter fun a => !decide (a.1 ∈ p)).map (·.2)
def free (n : Nat) (ar : Arr) (p : List Int) : List Int := (nodes n).filter fun v => !decide (v ∈ p) && !decide (v ∈ held ar p)

theorem mem_nodes {n : Nat} {v : Int} : v ∈ nodes n ↔ 1 ≤ v ∧ v ≤ n := by
  unfold nodes
  rw [List.mem_map]
  constructor
  · rintro ⟨i, hi, rfl⟩
    have := List.mem_range.mp hi
    omega
  · intro h
    exact ⟨(v - 1).toNat, List.mem_range.mpr (by omega), by omega⟩
theorem length_nodes (n : Nat) : (nodes n).length = n := by simp [nodes]
theorem mem_held {ar : Arr} {p : List Int} {v : Int} : v ∈ held ar p ↔ ∃ x, (x, v) ∈ ar ∧ x ∉ p := by
  unfold held
  rw [List.mem_map]
  constructor
  · rintro ⟨⟨x, y⟩, hm, rfl⟩
    obtain ⟨h1, h2⟩ := List.mem_filter.mp hm
    exact ⟨x, h1, by simpa using h2⟩
  · rintro ⟨x, h1, h2⟩
    exact ⟨(x, v), List.mem_filter.mpr ⟨h1, by simpa using h2⟩, rfl⟩
theorem mem_free {n : Nat} {ar : Arr} {p : List Int} {v : Int} : v ∈ free n ar p ↔ (1 ≤ v ∧ v ≤ n) ∧ v ∉ p ∧ ∀ x, (x, v) ∈ ar → x ∈ p := by
  unfold free
  rw [List.mem_filter, mem_nodes, Bool.and_eq_true, Bool.not_eq_true', Bool.not_eq_true', decide_eq_false_iff_not, decide_eq_false_iff_not, mem_held]
  constructor
  · rintro ⟨h1, h2, h3⟩
    refine ⟨h1, h2, fun x hx => ?_⟩
    by_cases q : x ∈ p
    · exact q
    · exact absurd ⟨x, hx, q⟩ h3
  · rintro ⟨h1, h2, h3⟩
    exact ⟨h1, h2, fun ⟨x, hx, q⟩ => q (h3 x hx)⟩

theorem sorted_nodes (n : Nat) : (nodes n).Pairwise (· < ·) := by
  unfold nodes
  rw [List.pairwise_map]
  exact List.Pairwise.imp (fun h => by omega) List.pairwise_lt_range
theorem sorted_free (n : Nat) (ar : Arr) (p : List Int) : (free n ar p).Pairwise (· < ·) := (sorted_nodes n).filter _
theorem nodup_of_sorted {l : List Int} (h : l.Pairwise (· < ·)) : l.Nodup := List.Pairwise.imp (fun h e => by omega) h
theorem nodup_nodes (n : Nat) : (nodes n).Nodup := nodup_of_sorted (sorted_nodes n)
theorem filter_gt : ∀ {A B : List Int} {v : Int}, (A ++ v :: B).Pairwise (· < ·) → ((A ++ v :: B).filter fun u => decide (v < u)) = B
  | [], B, v, h => by
    obtain ⟨h1, _⟩ := List.pairwise_cons.mp h
    show (v :: B).filter _ = B
    rw [List.filter_cons, if_neg (by simp)]
    exact List.filter_eq_self.mpr fun u hu => by simpa using h1 u hu
  | a :: A, B, v, h => by
    obtain ⟨h1, h2⟩ := List.pairwise_cons.mp h
    have hv : a < v := h1 v (List.mem_append_right _ List.mem_cons_self)
    show ((a :: (A ++ v :: B)).filter _) = B
    rw [List.filter_cons, if_neg (by simp; omega)]
    exact filter_gt h2

/-! ### pigeons -/
theorem sub_len : ∀ {l m : List Int}, l.Nodup → (∀ x ∈ l, x ∈ m) → l.length ≤ m.length
  | [], m, _, _ => Nat.zero_le _
  | a :: l, m, hn, hs => by
    obtain ⟨h1, h2⟩ := List.nodup_cons.mp hn
    have ha := hs a List.mem_cons_self
    have hl : (m.erase a).length + 1 = m.length := by
      rw [List.length_erase_of_mem ha]
      have := List.length_pos_of_mem ha
      omega
    have ih := sub_len (l := l) (m := m.erase a) h2 fun x hx => by
      have ne : x ≠ a := fun e => h1 (e ▸ hx)
      exact (List.mem_erase_of_ne ne).mpr (hs x (List.mem_cons_of_mem _ hx))
    simp only [List.length_cons]
    omega
theorem covers {l m : List Int} (hn : l.Nodup) (hs : ∀ x ∈ l, x ∈ m) (hl : m.length ≤ l.length) : ∀ x ∈ m, x ∈ l := fun x hx => by
  by_cases q : x ∈ l
  · exact q
  · have := sub_len (l := x :: l) (m := m) (List.nodup_cons.mpr ⟨q, hn⟩) fun y hy => by
      rcases List.mem_cons.mp hy with rfl | hy
      · exact hx
      · exact hs y hy
    simp only [List.length_cons] at this
    omega

/-! ### what can stand ahead -/
inductive Good (n : Nat) (ar : Arr) : List Int → Prop
  | nil : Good n ar []
  | snoc {p : List Int} {v : Int} : Good n ar p → v ∈ free n ar p → Good n ar (p ++ [v])
section
variable {n : Nat} {ar : Arr}
theorem Good.nodup {p : List Int} (g : Good n ar p) : p.Nodup := by
  induction g with
  | nil => exact List.nodup_nil
  | snoc g hv ih =>
    refine List.nodup_append.mpr ⟨ih, by simp, fun a ha b hb e => ?_⟩
    rw [List.mem_singleton.mp hb] at e
    subst e
    exact (mem_free.mp hv).2.1 ha
theorem Good.sub {p : List Int} (g : Good n ar p) : ∀ x ∈ p, 1 ≤ x ∧ x ≤ n := by
  induction g with
  | nil => intro x hx; cases hx
  | snoc g hv ih =>
    intro x hx
    rcases List.mem_append.mp hx with hx | hx
    · exact ih x hx
    · rw [List.mem_singleton.mp hx]
      exact (mem_free.mp hv).1
theorem Good.len {p : List Int} (g : Good n ar p) : p.length ≤ n := by
  have := sub_len (m := nodes n) g.nodup fun x hx => mem_nodes.mpr (g.sub x hx)
  rwa [length_nodes] at this
theorem Good.full {p : List Int} (g : Good n ar p) (h : p.length = n) {v : Int} (hv : 1 ≤ v ∧ v ≤ n) : v ∈ p :=
  covers (m := nodes n) g.nodup (fun x hx => mem_nodes.mpr (g.sub x hx)) (by rw [length_nodes]; omega) v (mem_nodes.mpr hv)
theorem Good.free_full {p : List Int} (g : Good n ar p) (h : p.length = n) : free n ar p = [] := by
  cases e : free n ar p with
  | nil => rfl
  | cons v r =>
    have hv : v ∈ free n ar p := by rw [e]; exact List.mem_cons_self
    exact absurd (g.full h (mem_free.mp hv).1) (mem_free.mp hv).2.1
theorem Good.inv {p : List Int} {v : Int} (g : Good n ar (p ++ [v])) : Good n ar p ∧ v ∈ free n ar p := by
  generalize e : p ++ [v] = q at g
  cases g with
  | nil => simp at e
  | snoc g hv =>
    obtain ⟨e1, e2⟩ := List.append_inj' e rfl
    subst e1
    cases e2
    exact ⟨g, hv⟩
theorem Good.split {q : List Int} (g : Good n ar q) : ∀ {A B : List Int} {v : Int}, q = A ++ v :: B → Good n ar A ∧ v ∈ free n ar A := by
  induction g with
  | nil => intro A B v e; simp at e
  | @snoc p u g hu ih =>
    intro A B v e
    rcases List.eq_nil_or_concat B with rfl | ⟨B', b, rfl⟩
    · obtain ⟨e1, e2⟩ := List.append_inj' e rfl
      subst e1
      cases e2
      exact ⟨g, hu⟩
    · rw [List.concat_eq_append, show A ++ v :: (B' ++ [b]) = (A ++ v :: B') ++ [b] by simp] at e
      exact ih (List.append_inj' e rfl).1

/-! ### all of them, in the order of lists -/
variable (n ar)
def ext : Nat → List Int → List (List Int)
  | 0, p => [p]
  | k + 1, p => (free n ar p).flatMap fun v => ext k (p ++ [v])
def comp : Nat → List Int → Option (List Int)
  | 0, p => some p
  | k + 1, p => match free n ar p with
    | [] => none
    | v :: _ => comp k (p ++ [v])
variable {n ar}
theorem comp_mem : ∀ {k : Nat} {p L : List Int}, comp n ar k p = some L → L ∈ ext n ar k p
  | 0, p, L, h => by
    cases h
    exact List.mem_singleton.mpr rfl
  | k + 1, p, L, h => by
    unfold comp at h
    cases e : free n ar p with
    | nil => rw [e] at h; cases h
    | cons v r =>
      rw [e] at h
      unfold ext
      rw [e]
      exact List.mem_flatMap.mpr ⟨v, List.mem_cons_self, comp_mem h⟩
theorem ext_good : ∀ {k : Nat} {p L : List Int}, Good n ar p → L ∈ ext n ar k p → Good n ar L ∧ L.length = p.length + k ∧ L.take p.length = p
  | 0, p, L, g, h => by
    rw [List.mem_singleton.mp h]
    exact ⟨g, rfl, List.take_length⟩
  | k + 1, p, L, g, h => by
    unfold ext at h
    obtain ⟨v, hv, hL⟩ := List.mem_flatMap.mp h
    obtain ⟨g1, l1, t1⟩ := ext_good (.snoc g hv) hL
    rw [List.length_append, List.length_singleton] at l1 t1
    refine ⟨g1, by omega, ?_⟩
    have := congrArg (List.take p.length) t1
    rw [List.take_take, List.take_left] at this
    rwa [Nat.min_eq_left (by omega)] at this
theorem ext_at {k : Nat} {p L : List Int} {v : Int} (g : Good n ar p) (hv : v ∈ free n ar p) (h : L ∈ ext n ar k (p ++ [v])) : L[p.length]? = some v := by
  obtain ⟨_, l1, t1⟩ := ext_good (.snoc g hv) h
  rw [List.length_append, List.length_singleton] at l1 t1
  have e : (L.take (p.length + 1))[p.length]? = L[p.length]? := by rw [List.getElem?_take, if_pos (by omega)]
  rw [← e, t1]
  simp
/-- where there is one order at all nothing that is begun well gets stuck -/
theorem alive (h : ext n ar n [] ≠ []) {p : List Int} (g : Good n ar p) (hl : p.length < n) : free n ar p ≠ [] := by
  obtain ⟨L, hL⟩ := List.exists_mem_of_ne_nil _ h
  obtain ⟨gL, lL, _⟩ := ext_good .nil hL
  have hl2 : L.length = n := by rw [lL]; exact Nat.zero_add n
  -- the first of L that p lacks
  have first : ∀ B A : List Int, L = A ++ B → (∀ x ∈ A, x ∈ p) → free n ar p ≠ [] := by
    intro B
    induction B with
    | nil =>
      intro A e hA
      rw [List.append_nil] at e
      subst e
      have := sub_len gL.nodup hA
      omega
    | cons v B ih =>
      intro A e hA
      by_cases q : v ∈ p
      · refine ih (A ++ [v]) (by rw [e]; simp) fun x hx => ?_
        rcases List.mem_append.mp hx with hx | hx
        · exact hA x hx
        · rw [List.mem_singleton.mp hx]; exact q
      · obtain ⟨_, hv⟩ := gL.split e
        have hv := mem_free.mp hv
        have hf : v ∈ free n ar p := mem_free.mpr ⟨hv.1, q, fun x hx => hA x (hv.2.2 x hx)⟩
        intro z
        rw [z] at hf
        cases hf
  exact first L [] rfl fun x hx => by cases hx
theorem comp_head (h : ext n ar n [] ≠ []) : ∀ {k : Nat} {p : List Int}, Good n ar p → p.length + k = n → comp n ar k p = (ext n ar k p)[0]? ∧ ext n ar k p ≠ []
  | 0, p, _, _ => ⟨rfl, by simp [ext]⟩
  | k + 1, p, g, hl => by
    unfold comp ext
    cases e : free n ar p with
    | nil => exact absurd e (alive h g (by omega))
    | cons v r =>
      have hv : v ∈ free n ar p := by rw [e]; exact List.mem_cons_self
      obtain ⟨e1, e2⟩ := comp_head h (k := k) (.snoc g hv) (by rw [List.length_append, List.length_singleton]; omega)
      rw [List.flatMap_cons]
      cases q : ext n ar k (p ++ [v]) with
      | nil => exact absurd q e2
      | cons L rest =>
        rw [q] at e1
        refine ⟨?_, by simp⟩
        show comp n ar k (p ++ [v]) = _
        rw [e1]
        rfl
theorem comp_first : comp n ar n [] = (ext n ar n [])[0]? := by
  by_cases h : ext n ar n [] = []
  · rw [h]
    cases e : comp n ar n [] with
    | none => rfl
    | some L =>
      have := comp_mem e
      rw [h] at this
      cases this
  · exact (comp_head h .nil (by simp)).1

/-! ### the next one -/
variable (n ar)
/-- the loop over the places k - 1 down to 0 -/
def nextAt (L : List Int) : Nat → Option (List Int)
  | 0 => none
  | k + 1 => match (free n ar (L.take k)).filter fun v => decide (L.getD k 0 < v) with
    | [] => nextAt L k
    | v :: _ => comp n ar (n - (k + 1)) (L.take k ++ [v])
variable {n ar}
theorem block {k : Nat} {g : Int → List (List Int)} {L : List Int} {v : Int} (hv : L[k]? = some v) : ∀ {F : List Int} {i : Nat}, (∀ u ∈ F, ∀ x ∈ g u, x[k]? = some u) → (F.flatMap g)[i]? = some L →
    ∃ F1 F2 i', F = F1 ++ v :: F2 ∧ (g v)[i']? = some L ∧ (F.flatMap g)[i + 1]? = match (g v)[i' + 1]? with
      | some x => some x
      | none => (F2.flatMap g)[0]?
  | [], i, _, h => by simp at h
  | u :: F, i, tag, h => by
    rw [List.flatMap_cons] at h ⊢
    by_cases hi : i < (g u).length
    · rw [List.getElem?_append_left hi] at h
      have e := tag u List.mem_cons_self L (List.mem_of_getElem? h)
      rw [hv] at e
      cases e
      refine ⟨[], F, i, rfl, h, ?_⟩
      by_cases h2 : i + 1 < (g v).length
      · rw [List.getElem?_append_left h2, List.getElem?_eq_getElem h2]
      · have h3 : (g v).length = i + 1 := by omega
        rw [List.getElem?_append_right (by omega), List.getElem?_eq_none (l := g v) (by omega), h3, Nat.sub_self]
    · have hi : (g u).length ≤ i := by omega
      rw [List.getElem?_append_right hi] at h
      obtain ⟨F1, F2, i', e1, e2, e3⟩ := block hv (fun u' hu => tag u' (List.mem_cons_of_mem _ hu)) h
      refine ⟨u :: F1, F2, i', by rw [e1]; rfl, e2, ?_⟩
      rw [List.getElem?_append_right (by omega), show i + 1 - (g u).length = i - (g u).length + 1 by omega]
      exact e3
theorem next_from (h : ext n ar n [] ≠ []) {L : List Int} (gL : Good n ar L) (hL : L.length = n) : ∀ {j : Nat} {i : Nat}, j ≤ n → (ext n ar j (L.take (n - j)))[i]? = some L →
    nextAt n ar L n = match (ext n ar j (L.take (n - j)))[i + 1]? with
      | some x => some x
      | none => nextAt n ar L (n - j)
  | 0, i, _, hi => by
    have : (ext n ar 0 (L.take (n - 0)))[i + 1]? = none := by simp [ext]
    rw [this]
    rfl
  | j + 1, i, hj, hi => by
    have hk : n - (j + 1) < L.length := by omega
    have es : L.take (n - (j + 1)) ++ [L[n - (j + 1)]] = L.take (n - j) := by
      rw [show n - j = n - (j + 1) + 1 by omega, List.take_succ_eq_append_getElem hk]
    have eL : L = L.take (n - (j + 1)) ++ L[n - (j + 1)] :: L.drop (n - (j + 1) + 1) := by
      rw [← List.drop_eq_getElem_cons hk, List.take_append_drop]
    obtain ⟨gp, hv⟩ := gL.split eL
    have lp : (L.take (n - (j + 1))).length = n - (j + 1) := by rw [List.length_take]; omega
    have hat : L[n - (j + 1)]? = some L[n - (j + 1)] := List.getElem?_eq_getElem hk
    have tag : ∀ u ∈ free n ar (L.take (n - (j + 1))), ∀ x ∈ ext n ar j (L.take (n - (j + 1)) ++ [u]), x[n - (j + 1)]? = some u := fun u hu x hx => by
      have := ext_at gp hu hx
      rwa [lp] at this
    unfold ext at hi ⊢
    obtain ⟨F1, F2, i', e1, e2, e3⟩ := block hat tag hi
    rw [e3]
    rw [es] at e2 ⊢
    have ih := next_from h gL hL (j := j) (i := i') (by omega) e2
    rw [ih]
    cases q : (ext n ar j (L.take (n - j)))[i' + 1]? with
    | some x => rfl
    | none =>
      show nextAt n ar L (n - j) = _
      have sf := sorted_free n ar (L.take (n - (j + 1)))
      rw [e1] at sf
      have ef : ((free n ar (L.take (n - (j + 1)))).filter fun v => decide (L.getD (n - (j + 1)) 0 < v)) = F2 := by
        rw [e1]
        have : L.getD (n - (j + 1)) 0 = L[n - (j + 1)] := by rw [List.getD_eq_getElem?_getD, hat]; rfl
        rw [this]
        exact filter_gt sf
      rw [show n - j = n - (j + 1) + 1 by omega]
      show (match (free n ar (L.take (n - (j + 1)))).filter fun v => decide (L.getD (n - (j + 1)) 0 < v) with
        | [] => nextAt n ar L (n - (j + 1))
        | v :: _ => comp n ar (n - (n - (j + 1) + 1)) (L.take (n - (j + 1)) ++ [v])) = _
      rw [ef]
      cases F2 with
      | nil => rfl
      | cons u F3 =>
        have hu : u ∈ free n ar (L.take (n - (j + 1))) := by rw [e1]; simp
        obtain ⟨c1, c2⟩ := comp_head h (k := j) (.snoc gp hu) (by rw [List.length_append, lp, List.length_singleton]; omega)
        show comp n ar (n - (n - (j + 1) + 1)) (L.take (n - (j + 1)) ++ [u]) = _
        rw [show n - (n - (j + 1) + 1) = j by omega, c1, List.flatMap_cons]
        cases q2 : ext n ar j (L.take (n - (j + 1)) ++ [u]) with
        | nil => exact absurd q2 c2
        | cons x r => rfl
/-- THE NEXT ORDER -/
theorem next_ok {L : List Int} {i : Nat} (hi : (ext n ar n [])[i]? = some L) : nextAt n ar L n = (ext n ar n [])[i + 1]? := by
  have hm : L ∈ ext n ar n [] := List.mem_of_getElem? hi
  have h : ext n ar n [] ≠ [] := fun e => by rw [e] at hm; cases hm
  obtain ⟨gL, lL, _⟩ := ext_good .nil hm
  have lL : L.length = n := by rw [lL]; exact Nat.zero_add n
  have e0 : L.take (n - n) = [] := by rw [Nat.sub_self]; rfl
  have := next_from h gL lL (j := n) (i := i) (Nat.le_refl _) (by rw [e0]; exact hi)
  rw [e0, Nat.sub_self] at this
  rw [this]
  cases (ext n ar n [])[i + 1]? <;> rfl
end
end K65

/-! counting, rings, the law's own walk -/
namespace K65
section
variable (n : Nat) (ar : Arr)
def cnt : Nat → List Int → Nat
  | 0, _ => 1
  | k + 1, p => ((free n ar p).map fun v => cnt k (p ++ [v])).sum
variable {n ar}
theorem cnt_len : ∀ (k : Nat) (p : List Int), cnt n ar k p = (ext n ar k p).length
  | 0, p => rfl
  | k + 1, p => by
    unfold cnt ext
    rw [List.length_flatMap]
    congr 1
    exact List.map_congr_left fun v _ => cnt_len k (p ++ [v])
theorem free_congr {p q : List Int} (h : ∀ x, x ∈ p ↔ x ∈ q) : free n ar p = free n ar q := by
  unfold free
  refine List.filter_congr fun v _ => ?_
  have e : held ar p = held ar q := by
    unfold held
    rw [List.filter_congr (q := fun a => !decide (a.1 ∈ q)) fun a _ => by simp [h a.1]]
  rw [e]
  simp [h v]
theorem cnt_congr : ∀ (k : Nat) {p q : List Int}, (∀ x, x ∈ p ↔ x ∈ q) → cnt n ar k p = cnt n ar k q
  | 0, _, _, _ => rfl
  | k + 1, p, q, h => by
    unfold cnt
    rw [free_congr h]
    congr 1
    exact List.map_congr_left fun v _ => cnt_congr k fun x => by simp [h x]
end

/-! ### sums over pairs (key, count) -/
def W (f : List Int → Int) (kvs : List (List Int × Int)) : Int := (kvs.map fun kv => kv.2 * f kv.1).sum
theorem W_nil (f : List Int → Int) : W f [] = 0 := rfl
theorem W_cons (f : List Int → Int) (kv : List Int × Int) (r : List (List Int × Int)) : W f (kv :: r) = kv.2 * f kv.1 + W f r := by simp [W]
theorem W_append (f : List Int → Int) (a b : List (List Int × Int)) : W f (a ++ b) = W f a + W f b := by simp [W]
def look (kvs : List (List Int × Int)) (k : List Int) : Int := ((kvs.find? fun kv => decide (kv.1 = k)).map (·.2)).getD 0
def put (kvs : List (List Int × Int)) (k : List Int) (v : Int) : List (List Int × Int) :=
  if (kvs.any fun kv => decide (kv.1 = k)) = true then kvs.map fun kv => if kv.1 = k then (kv.1, v) else kv else kvs ++ [(k, v)]
theorem map_same (f : List Int → Int) (k : List Int) (v : Int) : ∀ {kvs : List (List Int × Int)}, (∀ kv ∈ kvs, kv.1 ≠ k) → (kvs.map fun kv => if kv.1 = k then (kv.1, v) else kv) = kvs
  | [], _ => rfl
  | kv :: r, h => by
    rw [List.map_cons, if_neg (h kv List.mem_cons_self), map_same f k v fun x hx => h x (List.mem_cons_of_mem _ hx)]
theorem W_map (f : List Int → Int) (k : List Int) (c : Int) : ∀ {kvs : List (List Int × Int)}, (kvs.map (·.1)).Nodup → (kvs.any fun kv => decide (kv.1 = k)) = true →
    W f (kvs.map fun kv => if kv.1 = k then (kv.1, look kvs k + c) else kv) = W f kvs + c * f k
  | [], _, h => by simp at h
  | kv :: r, hn, h => by
    rw [List.map_cons] at hn
    obtain ⟨h1, h2⟩ := List.nodup_cons.mp hn
    by_cases e : kv.1 = k
    · have e1 : look (kv :: r) k = kv.2 := by simp [look, e]
      rw [List.map_cons, if_pos e, e1, W_cons, W_cons]
      have := map_same f k (kv.2 + c) (kvs := r) fun x hx q => h1 (List.mem_map.mpr ⟨x, hx, q.trans e.symm⟩)
      rw [this]
      show (kv.2 + c) * f kv.1 + W f r = _
      rw [e, Int.add_mul]
      omega
    · have e1 : look (kv :: r) k = look r k := by simp [look, e]
      rw [List.map_cons, if_neg e, e1, W_cons, W_cons]
      have h' : (r.any fun kv => decide (kv.1 = k)) = true := by simpa [e] using h
      rw [W_map f k c h2 h']
      omega
theorem W_put (f : List Int → Int) {kvs : List (List Int × Int)} (k : List Int) (c : Int) (hn : (kvs.map (·.1)).Nodup) : W f (put kvs k (look kvs k + c)) = W f kvs + c * f k := by
  unfold put
  by_cases h : (kvs.any fun kv => decide (kv.1 = k)) = true
  · rw [if_pos h]
    exact W_map f k c hn h
  · rw [if_neg h, W_append, W_cons, W_nil]
    have : look kvs k = 0 := by
      unfold look
      have : (kvs.find? fun kv => decide (kv.1 = k)) = none := List.find?_eq_none.mpr fun x hx q => h (List.any_eq_true.mpr ⟨x, hx, q⟩)
      rw [this]; rfl
    rw [this]
    simp
theorem keys_put {kvs : List (List Int × Int)} {k : List Int} {v : Int} (hn : (kvs.map (·.1)).Nodup) : ((put kvs k v).map (·.1)).Nodup := by
  unfold put
  by_cases h : (kvs.any fun kv => decide (kv.1 = k)) = true
  · rw [if_pos h, List.map_map]
    have : ((fun kv : List Int × Int => kv.1) ∘ fun kv => if kv.1 = k then (kv.1, v) else kv) = fun kv => kv.1 := by
      funext kv
      show (if kv.1 = k then (kv.1, v) else kv).1 = kv.1
      split <;> rfl
    rw [this]
    exact hn
  · rw [if_neg h, List.map_append, List.map_cons, List.map_nil]
    refine List.nodup_append.mpr ⟨hn, by simp, fun a ha b hb e => ?_⟩
    rw [List.mem_singleton.mp hb] at e
    subst e
    obtain ⟨x, hx, q⟩ := List.mem_map.mp ha
    exact h (List.any_eq_true.mpr ⟨x, hx, by simpa using q⟩)
theorem length_put (kvs : List (List Int × Int)) (k : List Int) (v : Int) : (put kvs k v).length ≤ kvs.length + 1 := by
  unfold put
  split
  · rw [List.length_map]; omega
  · rw [List.length_append]; exact Nat.le_refl _

/-! ### the sum over the masks -/
def sumR (f : Nat → Int) (j : Nat) : Nat → Int
  | 0 => 0
  | k + 1 => f j + sumR f (j + 1) k
theorem sumR_congr {f g : Nat → Int} : ∀ {k j : Nat}, (∀ m, j ≤ m → m < j + k → f m = g m) → sumR f j k = sumR g j k
  | 0, _, _ => rfl
  | k + 1, j, h => by
    unfold sumR
    rw [h j (by omega) (by omega), sumR_congr fun m h1 h2 => h m (by omega) (by omega)]
theorem sumR_add {f g : Nat → Int} {c : Int} {a : Nat} : ∀ {k j : Nat}, (∀ m, j ≤ m → m < j + k → m ≠ a → f m = g m) → j ≤ a → a < j + k → f a = g a + c → sumR f j k = sumR g j k + c
  | 0, j, _, h1, h2, _ => by omega
  | k + 1, j, h, h1, h2, h3 => by
    unfold sumR
    by_cases e : j = a
    · subst e
      rw [h3, sumR_congr (g := g) fun m q1 q2 => h m (by omega) (by omega) (by omega)]
      omega
    · rw [h j (by omega) (by omega) e, sumR_add (fun m q1 q2 q3 => h m (by omega) (by omega) q3) (by omega) (by omega) h3]
      omega
theorem sumR_zero : ∀ {k j : Nat}, sumR (fun _ => 0) j k = 0
  | 0, _ => rfl
  | k + 1, j => by unfold sumR; rw [sumR_zero]; rfl
theorem bit_add : ∀ {x a i : Nat}, a.testBit x = false → (a + 2 ^ x).testBit i = (a.testBit i || decide (i = x))
  | 0, a, i, h => by
    have ha : a % 2 = 0 := by rw [Nat.testBit_zero] at h; simpa using h
    cases i with
    | zero => simp only [Nat.testBit_zero, Nat.pow_zero]; have : (a + 1) % 2 = 1 := by omega
              simp [this, ha]
    | succ i => rw [Nat.testBit_succ, Nat.testBit_succ, Nat.pow_zero, show (a + 1) / 2 = a / 2 by omega]; simp
  | x + 1, a, i, h => by
    rw [Nat.testBit_succ] at h
    cases i with
    | zero =>
      simp only [Nat.testBit_zero]
      have : (a + 2 ^ (x + 1)) % 2 = a % 2 := by rw [Nat.pow_succ]; omega
      rw [this]; simp
    | succ i =>
      rw [Nat.testBit_succ, Nat.testBit_succ, show (a + 2 ^ (x + 1)) / 2 = a / 2 + 2 ^ x by rw [Nat.pow_succ]; omega, bit_add h]
      simp
def bits (xs : List Nat) : Nat := (xs.map fun x => 2 ^ x).sum
theorem testBit_bits {i : Nat} : ∀ {xs : List Nat}, xs.Nodup → (bits xs).testBit i = decide (i ∈ xs)
  | [], _ => by simp [bits]
  | x :: xs, h => by
    obtain ⟨h1, h2⟩ := List.nodup_cons.mp h
    have e : bits (x :: xs) = bits xs + 2 ^ x := by simp [bits]; omega
    rw [e, bit_add (by rw [testBit_bits h2]; simpa using h1), testBit_bits h2]
    by_cases q : i = x <;> simp [q]
section
variable (n : Nat) (ar : Arr)
def setOf (m : Nat) : List Int := (nodes n).filter fun v => m.testBit (v - 1).toNat
/-- node at + 1 may come next behind the nodes of the mask m -/
def Next (m a : Nat) : Prop := m.testBit a = false ∧ ∀ x, (x, (a : Int) + 1) ∈ ar → m.testBit (x - 1).toNat = true
def wt (m : Nat) : Int := cnt n ar (n - (setOf n m).length) (setOf n m)
variable {n ar}
theorem mem_setOf {m : Nat} {v : Int} : v ∈ setOf n m ↔ (1 ≤ v ∧ v ≤ n) ∧ m.testBit (v - 1).toNat = true := by
  unfold setOf
  rw [List.mem_filter, mem_nodes]
theorem setOf_zero : setOf n 0 = [] := List.filter_eq_nil_iff.mpr fun v _ => by simp
theorem wt_zero : wt n ar 0 = cnt n ar n [] := by unfold wt; rw [setOf_zero]; rfl
theorem setOf_full : setOf n (2 ^ n - 1) = nodes n := List.filter_eq_self.mpr fun v hv => by
  have := mem_nodes.mp hv
  rw [Nat.testBit_two_pow_sub_one]
  simp; omega
theorem wt_full : wt n ar (2 ^ n - 1) = 1 := by unfold wt; rw [setOf_full, length_nodes, Nat.sub_self]; rfl
theorem setOf_nodup {m : Nat} : (setOf n m).Nodup := (nodup_nodes n).filter _
theorem next_iff (hA : ∀ x y, (x, y) ∈ ar → (1 ≤ x ∧ x ≤ n)) {m a : Nat} (ha : a < n) : Next ar m a ↔ (a : Int) + 1 ∈ free n ar (setOf n m) := by
  rw [mem_free]
  unfold Next
  constructor
  · rintro ⟨h1, h2⟩
    refine ⟨by omega, fun q => ?_, fun x hx => mem_setOf.mpr ⟨hA x _ hx, h2 x hx⟩⟩
    have := (mem_setOf.mp q).2
    rw [show ((a : Int) + 1 - 1).toNat = a by omega, h1] at this
    cases this
  · rintro ⟨h1, h2, h3⟩
    refine ⟨?_, fun x hx => (mem_setOf.mp (h3 x hx)).2⟩
    cases e : m.testBit a with
    | false => rfl
    | true => exact absurd (mem_setOf.mpr ⟨h1, by rw [show ((a : Int) + 1 - 1).toNat = a by omega, e]⟩) h2
theorem setOf_or {m a : Nat} (ha : a < n) (h : m.testBit a = false) : (∀ x, x ∈ setOf n (m ||| 2 ^ a) ↔ x ∈ setOf n m ++ [(a : Int) + 1]) ∧ (setOf n (m ||| 2 ^ a)).length = (setOf n m).length + 1 := by
  have key : ∀ x, x ∈ setOf n (m ||| 2 ^ a) ↔ x ∈ setOf n m ++ [(a : Int) + 1] := fun x => by
    rw [List.mem_append, List.mem_singleton, mem_setOf, mem_setOf, Nat.testBit_or, Nat.testBit_two_pow, Bool.or_eq_true, decide_eq_true_iff]
    constructor
    · rintro ⟨h1, h2 | h2⟩
      · exact .inl ⟨h1, h2⟩
      · exact .inr (by omega)
    · rintro (⟨h1, h2⟩ | h2)
      · exact ⟨h1, .inl h2⟩
      · exact ⟨by omega, .inr (by omega)⟩
  refine ⟨key, ?_⟩
  have nd : (setOf n m ++ [(a : Int) + 1]).Nodup := List.nodup_append.mpr ⟨setOf_nodup, by simp, fun x hx y hy e => by
    rw [List.mem_singleton.mp hy] at e
    subst e
    have := (mem_setOf.mp hx).2
    rw [show ((a : Int) + 1 - 1).toNat = a by omega, h] at this
    cases this⟩
  have h1 := sub_len (setOf_nodup (n := n) (m := m ||| 2 ^ a)) fun x hx => (key x).mp hx
  have h2 := sub_len nd fun x hx => (key x).mpr hx
  rw [List.length_append, List.length_singleton] at h1 h2
  omega
theorem wt_or {m a : Nat} (ha : a < n) (h : m.testBit a = false) : wt n ar (m ||| 2 ^ a) = cnt n ar (n - (setOf n m).length - 1) (setOf n m ++ [(a : Int) + 1]) := by
  obtain ⟨h1, h2⟩ := setOf_or ha h
  unfold wt
  rw [cnt_congr _ h1, h2, Nat.sub_add_eq]
theorem sum_filter_range (c : Nat → Bool) (f : Int → Int) : ∀ (k j : Nat), (((((List.range k).map fun (i : Nat) => (1 : Int) + ((j + i : Nat) : Int)).filter fun v => c (v - 1).toNat)).map f).sum = sumR (fun a => if c a = true then f ((a : Int) + 1) else 0) j k
  | 0, j => rfl
  | k + 1, j => by
    rw [List.range_succ_eq_map, List.map_cons, List.map_map, List.filter_cons]
    have ih := sum_filter_range c f k (j + 1)
    have e : ((fun (i : Nat) => (1 : Int) + ((j + i : Nat) : Int)) ∘ Nat.succ) = fun (i : Nat) => (1 : Int) + ((j + 1 + i : Nat) : Int) := by
      funext i
      show (1 : Int) + ((j + (i + 1) : Nat) : Int) = _
      omega
    rw [e, show ((1 : Int) + ((j + 0 : Nat) : Int) - 1).toNat = j by omega]
    unfold sumR
    by_cases q : c j = true
    · rw [if_pos q, if_pos q, List.map_cons, List.sum_cons, ih, show (1 : Int) + ((j + 0 : Nat) : Int) = (j : Int) + 1 by omega]
    · rw [if_neg q, if_neg q, ih, Int.zero_add]
/-- one step of the mask's count -/
theorem wt_step (hA : ∀ x y, (x, y) ∈ ar → (1 ≤ x ∧ x ≤ n)) {m : Nat} (hm : (setOf n m).length < n) (c : Nat → Bool) (hc : ∀ a, a < n → (c a = true ↔ Next ar m a)) : wt n ar m = sumR (fun a => if c a = true then wt n ar (m ||| 2 ^ a) else 0) 0 n := by
  have e1 : wt n ar m = (((free n ar (setOf n m)).map fun v => cnt n ar (n - (setOf n m).length - 1) (setOf n m ++ [v])).sum : Nat) := by
    unfold wt
    conv => lhs; rw [show n - (setOf n m).length = n - (setOf n m).length - 1 + 1 by omega]
    rfl
  have e2 : free n ar (setOf n m) = (nodes n).filter fun v => c (v - 1).toNat := by
    unfold free
    refine List.filter_congr fun v hv => ?_
    have hv' := mem_nodes.mp hv
    have q := hc (v - 1).toNat (by omega)
    rw [next_iff hA (by omega), show (((v - 1).toNat : Nat) : Int) + 1 = v by omega] at q
    have q2 : v ∈ free n ar (setOf n m) ↔ (!decide (v ∈ setOf n m) && !decide (v ∈ held ar (setOf n m))) = true := by
      unfold free
      rw [List.mem_filter]
      exact ⟨fun h => h.2, fun h => ⟨hv, h⟩⟩
    rw [q2] at q
    cases h1 : c (v - 1).toNat <;> cases h2 : (!decide (v ∈ setOf n m) && !decide (v ∈ held ar (setOf n m))) <;> simp_all
  have e3 : ∀ l : List Nat, ((l.sum : Nat) : Int) = (l.map fun (x : Nat) => (x : Int)).sum := by
    intro l
    induction l with
    | nil => rfl
    | cons a l ih => rw [List.sum_cons, List.map_cons, List.sum_cons, ← ih]; omega
  rw [e1, e3, List.map_map, e2]
  have e4 := sum_filter_range c (fun v => ((cnt n ar (n - (setOf n m).length - 1) (setOf n m ++ [v]) : Nat) : Int)) n 0
  have e5 : ((List.range n).map fun (i : Nat) => (1 : Int) + ((0 + i : Nat) : Int)) = nodes n := List.map_congr_left fun i _ => by omega
  rw [e5] at e4
  refine Eq.trans ?_ (e4.trans (sumR_congr fun a _ ha => ?_))
  · rfl
  · by_cases q : c a = true
    · rw [if_pos q, if_pos q, wt_or (by omega) ((hc a (by omega)).mp q).1]
    · rw [if_neg q, if_neg q]
theorem setOf_lt {m : Nat} (h : m < 2 ^ n - 1) : (setOf n m).length < n := by
  have hle : (setOf n m).length ≤ n := by
    have := List.length_filter_le (fun v => m.testBit (v - 1).toNat) (nodes n)
    rwa [length_nodes] at this
  rcases Nat.lt_or_ge (setOf n m).length n with q | q
  · exact q
  · exfalso
    have hc := covers (m := nodes n) (setOf_nodup (n := n) (m := m)) (fun x hx => (List.mem_filter.mp hx).1) (by rw [length_nodes]; exact q)
    have : m = 2 ^ n - 1 := Nat.eq_of_testBit_eq fun i => by
      rw [Nat.testBit_two_pow_sub_one]
      by_cases hi : i < n
      · have := (mem_setOf.mp (hc ((i : Int) + 1) (mem_nodes.mpr (by omega)))).2
        rw [show ((i : Int) + 1 - 1).toNat = i by omega] at this
        simp [this, hi]
      · have h2 : m < 2 ^ i := Nat.lt_of_lt_of_le (by omega) (Nat.pow_le_pow_right (by omega) (show n ≤ i by omega))
        rw [Nat.testBit_lt_two_pow h2]
        simp [hi]
    omega
end
end K65

/-! rings; the law's stack -/
namespace K65
section
variable {n : Nat} {ar : Arr}
/-- d tells the fewest arrows to the goal, and has all from which a path leads there -/
structure Dist (ar : Arr) (g : Int) (d : Int → Option Nat) : Prop where
  goal : d g = some 0
  zero : ∀ x, d x = some 0 → x = g
  step : ∀ x k, d x = some (k + 1) → ∃ y, (x, y) ∈ ar ∧ d y = some k
  back : ∀ x y, (x, y) ∈ ar → (d y).isSome = true → (d x).isSome = true
theorem idx_lt {L : List Int} (gL : Good n ar L) (hL : L.length = n) (hA : ∀ x y, (x, y) ∈ ar → (1 ≤ x ∧ x ≤ n) ∧ (1 ≤ y ∧ y ≤ n)) {x y : Int} (h : (x, y) ∈ ar) : L.idxOf x < L.idxOf y := by
  have hy : y ∈ L := gL.full hL (hA x y h).2
  obtain ⟨A, B, e⟩ := List.append_of_mem hy
  obtain ⟨_, hf⟩ := gL.split e
  have hx : x ∈ A := (mem_free.mp hf).2.2 x h
  have hyA : y ∉ A := (mem_free.mp hf).2.1
  rw [e, List.idxOf_append, List.idxOf_append, if_pos hx, if_neg hyA]
  have := List.idxOf_lt_length_of_mem hx
  simp
  omega
/-- where there is an order no ring leads through v -/
theorem no_ring (h : ext n ar n [] ≠ []) (hA : ∀ x y, (x, y) ∈ ar → (1 ≤ x ∧ x ≤ n) ∧ (1 ≤ y ∧ y ≤ n)) {v : Int} {d : Int → Option Nat} (D : Dist ar v d) : ∀ y, (v, y) ∈ ar → d y = none := by
  obtain ⟨L, hm⟩ := List.exists_mem_of_ne_nil _ h
  obtain ⟨gL, lL, _⟩ := ext_good .nil hm
  have lL : L.length = n := by rw [lL]; exact Nat.zero_add n
  have up : ∀ k x, d x = some k → L.idxOf x ≤ L.idxOf v := by
    intro k
    induction k with
    | zero =>
      intro x hx
      rw [D.zero x hx]
      exact Nat.le_refl _
    | succ k ih =>
      intro x hx
      obtain ⟨y, h1, h2⟩ := D.step x k hx
      have := ih y h2
      have := idx_lt gL lL hA h1
      omega
  intro y hy
  cases e : d y with
  | none => rfl
  | some k =>
    have := up k y e
    have := idx_lt gL lL hA hy
    omega
theorem comp_stuck : ∀ {k : Nat} {p : List Int}, Good n ar p → p.length + k = n → comp n ar k p = none → ∃ q, Good n ar q ∧ q.length < n ∧ free n ar q = []
  | 0, p, _, _, h => by cases h
  | k + 1, p, g, hl, h => by
    unfold comp at h
    cases e : free n ar p with
    | nil => exact ⟨p, g, by omega, e⟩
    | cons v r =>
      rw [e] at h
      have hv : v ∈ free n ar p := by rw [e]; exact List.mem_cons_self
      exact comp_stuck (.snoc g hv) (by rw [List.length_append, List.length_singleton]; omega) h
theorem filter_lt {l : List Int} {p q : Int → Bool} (h : ∀ x ∈ l, p x = true → q x = true) {u : Int} (hu : u ∈ l) (h1 : p u = false) (h2 : q u = true) : (l.filter p).length < (l.filter q).length := by
  induction l with
  | nil => cases hu
  | cons a l ih =>
    rw [List.filter_cons, List.filter_cons]
    have hm : ∀ (l' : List Int), (∀ x ∈ l', p x = true → q x = true) → (l'.filter p).length ≤ (l'.filter q).length := by
      intro l'
      induction l' with
      | nil => intro _; exact Nat.le_refl _
      | cons b l' ih' =>
        intro hb
        rw [List.filter_cons, List.filter_cons]
        have := ih' fun x hx => hb x (List.mem_cons_of_mem _ hx)
        by_cases q1 : p b = true
        · rw [if_pos q1, if_pos (hb b List.mem_cons_self q1)]
          simp only [List.length_cons]; omega
        · rw [if_neg q1]
          split
          · simp only [List.length_cons]; omega
          · exact this
    rcases List.mem_cons.mp hu with rfl | hu
    · rw [if_neg (by simp [h1]), if_pos h2, List.length_cons]
      have := hm l fun x hx => h x (List.mem_cons_of_mem _ hx)
      omega
    · have i := ih (fun x hx => h x (List.mem_cons_of_mem _ hx)) hu
      by_cases q1 : p a = true
      · rw [if_pos q1, if_pos (h a List.mem_cons_self q1)]
        simp only [List.length_cons]; omega
      · rw [if_neg q1]
        split
        · simp only [List.length_cons]; omega
        · exact i
/-- where there is no order some ring leads through some node -/
theorem some_ring (h : ext n ar n [] = []) (hA : ∀ x y, (x, y) ∈ ar → (1 ≤ x ∧ x ≤ n) ∧ (1 ≤ y ∧ y ≤ n)) {d : Int → Int → Option Nat} (D : ∀ v : Int, 1 ≤ v → v ≤ n → Dist ar v (d v)) :
    ∃ v y : Int, (1 ≤ v ∧ v ≤ n) ∧ (v, y) ∈ ar ∧ (d v y).isSome = true := by
  have hc : comp n ar n [] = none := by rw [comp_first, h]; rfl
  obtain ⟨p, g, hl, hf⟩ := comp_stuck .nil (by simp) hc
  -- each node outside of p has one ahead that is outside, too
  have pred : ∀ u : Int, (1 ≤ u ∧ u ≤ n) → u ∉ p → ∃ x, (x, u) ∈ ar ∧ x ∉ p := fun u hu hp => by
    apply Classical.byContradiction
    intro q
    have : u ∈ free n ar p := mem_free.mpr ⟨hu, hp, fun x hx => Classical.byContradiction fun z => q ⟨x, hx, z⟩⟩
    rw [hf] at this
    cases this
  obtain ⟨u0, hu0, hp0⟩ : ∃ u : Int, (1 ≤ u ∧ u ≤ n) ∧ u ∉ p := by
    apply Classical.byContradiction
    intro q
    have hs : ∀ x ∈ nodes n, x ∈ p := fun x hx => Classical.byContradiction fun z => q ⟨x, mem_nodes.mp hx, z⟩
    have := sub_len (nodup_nodes n) hs
    rw [length_nodes] at this
    omega
  apply Classical.byContradiction
  intro none
  have key : ∀ (m : Nat) (u : Int), (1 ≤ u ∧ u ≤ n) → u ∉ p → ((nodes n).filter fun x => (d u x).isSome).length = m → False := by
    intro m
    induction m using Nat.strongRecOn with
    | ind m ih =>
      intro u hu hp hm
      obtain ⟨x, hx, hxp⟩ := pred u hu hp
      have hxn := (hA x u hx).1
      have Du := D u hu.1 hu.2
      have Dx := D x hxn.1 hxn.2
      have xu : (d u x).isSome = true := Du.back x u hx (by rw [Du.goal]; rfl)
      have sub : ∀ k z, d x z = some k → (d u z).isSome = true := by
        intro k
        induction k with
        | zero =>
          intro z hz
          rw [Dx.zero z hz]
          exact xu
        | succ k ih2 =>
          intro z hz
          obtain ⟨y, h1, h2⟩ := Dx.step z k hz
          exact Du.back z y h1 (ih2 y h2)
      have ux : (d x u).isSome = false := by
        cases q : (d x u).isSome with
        | false => rfl
        | true => exact absurd ⟨x, u, hxn, hx, q⟩ none
      have lt := filter_lt (l := nodes n) (p := fun z => (d x z).isSome) (q := fun z => (d u z).isSome) (fun z _ hz => by
        cases e : d x z with
        | none => rw [e] at hz; cases hz
        | some k => exact sub k z e) (mem_nodes.mpr hu) ux (by rw [Du.goal]; rfl)
      exact ih _ (by omega) x hxn hxp rfl
  exact key _ u0 hu0 hp0 rfl

/-! ### the law's stack -/
/-- what the waiting beginnings (the top is the last) still give -/
def due (n : Nat) (ar : Arr) (ws : List (List Int)) : List (List Int) := ws.reverse.flatMap fun p => ext n ar (n - p.length) p
/-- found, waiting, turns gone -/
structure Dfs (n : Nat) (ar : Arr) (t : Nat) (fs ws : List (List Int)) : Prop where
  good : ∀ p ∈ ws, Good n ar p
  all : fs ++ due n ar ws = ext n ar n []
  turns : t ≤ (n + 1) * fs.length + (ws.getLast?.getD []).length
theorem Dfs.start : Dfs n ar 0 [] [[]] where
  good := fun p hp => by rw [List.mem_singleton.mp hp]; exact .nil
  all := by simp [due]
  turns := Nat.zero_le _
/-- one turn -/
theorem Dfs.turn {t : Nat} {fs ws : List (List Int)} {p : List Int} (h : ext n ar n [] ≠ []) (D : Dfs n ar t fs (ws ++ [p])) :
    Dfs n ar (t + 1) (if p.length = n then fs ++ [p] else fs) (ws ++ (free n ar p).reverse.map fun v => p ++ [v]) := by
  obtain ⟨g, a, tr⟩ := D
  have gp : Good n ar p := g p (List.mem_append_right _ List.mem_cons_self)
  have hdue : due n ar (ws ++ [p]) = ext n ar (n - p.length) p ++ due n ar ws := by simp [due]
  have hnew : due n ar (ws ++ (free n ar p).reverse.map fun v => p ++ [v]) = ((free n ar p).flatMap fun v => ext n ar (n - (p.length + 1)) (p ++ [v])) ++ due n ar ws := by
    unfold due
    rw [List.reverse_append, List.flatMap_append, ← List.map_reverse, List.reverse_reverse, List.flatMap_map]
    simp
  rw [List.getLast?_append, List.getLast?_singleton] at tr
  simp only [Option.some_or, Option.getD_some] at tr
  rw [hdue] at a
  by_cases q : p.length = n
  · rw [if_pos q]
    have ff := gp.free_full q
    rw [ff] at hnew ⊢
    refine ⟨fun x hx => g x ?_, ?_, ?_⟩
    · simp at hx; simp [hx]
    · rw [hnew, ← a, q, Nat.sub_self]
      simp [ext]
    · rw [List.length_append, List.length_singleton, Nat.mul_add]
      omega
  · rw [if_neg q]
    have hlt : p.length < n := by have := gp.len; omega
    have hne := alive h gp hlt
    refine ⟨fun x hx => ?_, ?_, ?_⟩
    · rcases List.mem_append.mp hx with hx | hx
      · exact g x (List.mem_append_left _ hx)
      · obtain ⟨v, hv, rfl⟩ := List.mem_map.mp hx
        exact .snoc gp (List.mem_reverse.mp hv)
    · rw [hnew, ← a]
      conv => rhs; rw [show n - p.length = n - (p.length + 1) + 1 by omega]
      rfl
    · cases e : free n ar p with
      | nil => exact absurd e hne
      | cons v r =>
        have : ((ws ++ (v :: r).reverse.map fun v => p ++ [v]).getLast?.getD []).length = p.length + 1 := by simp
        rw [this]
        omega
theorem Dfs.found_le {t : Nat} {fs ws : List (List Int)} (D : Dfs n ar t fs ws) : fs = (ext n ar n []).take fs.length := by
  rw [← D.all]
  simp
/-- what is handed back -/
theorem Dfs.done {t m : Nat} {fs ws : List (List Int)} (D : Dfs n ar t fs ws) (hm : fs.length ≤ m) (h : ws = [] ∨ fs.length = m) : fs = (ext n ar n []).take m := by
  rcases h with rfl | h
  · have := D.all
    have e : due n ar [] = [] := rfl
    rw [e, List.append_nil] at this
    rw [← this, List.take_of_length_le hm]
  · rw [← h]
    exact D.found_le
theorem Dfs.top_le {t : Nat} {fs ws : List (List Int)} (D : Dfs n ar t fs ws) : t ≤ (n + 1) * fs.length + n := by
  have := D.turns
  cases e : ws.getLast? with
  | none => rw [e] at this; simp at this; omega
  | some p =>
    rw [e] at this
    have hp : p ∈ ws := List.mem_of_getLast? e
    have := (D.good p hp).len
    simp at *
    omega
end
end K65

namespace K65
open PySem L2
/-! ### the text by places -/
def top (i : Nat) : Stmt := PySem.Challenge.pw_keptbase_k65_orders_counted.main.body.getD i (.Pass ⟨0, 0, 0, 0⟩)
abbrev sFree : Stmt := top 4
abbrev sCompleted : Stmt := top 5
abbrev sFirst : Stmt := top 6
abbrev sNext : Stmt := top 7
abbrev sOrders : Stmt := top 8
abbrev sCount : Stmt := top 9
abbrev sGInit : Stmt := inClass (top 11) 0
abbrev sFollowers : Stmt := inClass (top 11) 1
abbrev sSteps : Stmt := inClass (top 11) 2
abbrev sEnters : Stmt := inClass (top 11) 3
abbrev sPath : Stmt := inClass (top 11) 4
abbrev sRing : Stmt := inClass (top 11) 5
abbrev sPot : Stmt := top 13
abbrev sDraw : Stmt := top 14
abbrev sLined : Stmt := top 15
abbrev sArrows : Stmt := top 16
abbrev sWays : Stmt := top 17
abbrev sLFree : Stmt := top 18
abbrev sLOrders : Stmt := top 19
abbrev sTold : Stmt := top 20
abbrev sLaw : Stmt := top 21
theorem scFree : FnScope ["graph", "placed", "held", "x", "y", "node"] ["graph", "placed"] (defScope sFree) := ⟨rfl, rfl, rfl, by decide +kernel, rfl, by decide +kernel, by decide +kernel⟩
theorem scCompleted : FnScope ["graph", "beginning", "order", "free"] ["graph", "beginning"] (defScope sCompleted) := ⟨rfl, rfl, rfl, by decide +kernel, rfl, by decide +kernel, by decide +kernel⟩
theorem scFirst : FnScope ["graph"] ["graph"] (defScope sFirst) := ⟨rfl, rfl, rfl, by decide +kernel, rfl, by decide +kernel, by decide +kernel⟩
theorem scNext : FnScope ["graph", "order", "at", "greater", "node"] ["graph", "order"] (defScope sNext) := ⟨rfl, rfl, rfl, by decide +kernel, rfl, by decide +kernel, by decide +kernel⟩
theorem scCount : FnScope ["graph", "counts", "_", "longer", "placed", "many", "node", "both"] ["graph"] (defScope sCount) := ⟨rfl, rfl, rfl, by decide +kernel, rfl, by decide +kernel, by decide +kernel⟩
theorem scGInit : FnScope ["self", "size", "arrows", "different", "x", "y"] ["self", "size", "arrows"] (defScope sGInit) := ⟨rfl, rfl, rfl, by decide +kernel, rfl, by decide +kernel, by decide +kernel⟩
theorem scFollowers : FnScope ["self", "node", "x", "y"] ["self", "node"] (defScope sFollowers) := ⟨rfl, rfl, rfl, by decide +kernel, rfl, by decide +kernel, by decide +kernel⟩
theorem scSteps : FnScope ["self", "goal", "steps", "front", "count", "x"] ["self", "goal"] (defScope sSteps) := ⟨rfl, rfl, rfl, by decide +kernel, rfl, by decide +kernel, by decide +kernel⟩
theorem scEnters : FnScope ["self", "node", "goals", "y"] ["self", "node", "goals"] (defScope sEnters) := ⟨rfl, rfl, rfl, by decide +kernel, rfl, by decide +kernel, by decide +kernel⟩
theorem scPath : FnScope ["self", "start", "goal", "steps", "found", "known", "y"] ["self", "start", "goal"] (defScope sPath) := ⟨rfl, rfl, rfl, by decide +kernel, rfl, by decide +kernel, by decide +kernel⟩
theorem scRing : FnScope ["self", "best", "node", "found"] ["self"] (defScope sRing) := ⟨rfl, rfl, rfl, by decide +kernel, rfl, by decide +kernel, by decide +kernel⟩
theorem scPot : FnScope ["_law_script", "_law_k", "_law_number"] ["_law_script", "_law_k"] (defScope sPot) := ⟨rfl, rfl, rfl, by decide +kernel, rfl, by decide +kernel, by decide +kernel⟩
theorem scDraw : FnScope ["_law_pot_here", "_law_many", "_law_found"] ["_law_pot_here", "_law_many"] (defScope sDraw) := ⟨rfl, rfl, rfl, by decide +kernel, rfl, by decide +kernel, by decide +kernel⟩
theorem scLined : FnScope ["_law_pot_here", "_law_size", "_law_line", "_law_node", "_law_at"] ["_law_pot_here", "_law_size"] (defScope sLined) := ⟨rfl, rfl, rfl, by decide +kernel, rfl, by decide +kernel, by decide +kernel⟩
theorem scArrows : FnScope ["_law_pot_here", "_law_size", "_law_line", "_law_along", "_law_turned", "_law_many", "_law_found", "_law_k", "_law_start", "_law_step", "_law_pair"] ["_law_pot_here", "_law_size"] (defScope sArrows) := ⟨rfl, rfl, rfl, by decide +kernel, rfl, by decide +kernel, by decide +kernel⟩
theorem scWays : FnScope ["_law_size", "_law_arrows_here", "_law_ahead", "_law_node", "_law_counts", "_law_placed", "_law_at", "_law_after", "_law_x", "_law_y", "_law_k"] ["_law_size", "_law_arrows_here"] (defScope sWays) := ⟨rfl, rfl, rfl, by decide +kernel, rfl, by decide +kernel, by decide +kernel⟩
theorem scLFree : FnScope ["_law_size", "_law_arrows_here", "_law_placed", "_law_held", "_law_x", "_law_y", "_law_node"] ["_law_size", "_law_arrows_here", "_law_placed"] (defScope sLFree) := ⟨rfl, rfl, rfl, by decide +kernel, rfl, by decide +kernel, by decide +kernel⟩
theorem scLOrders : FnScope ["_law_size", "_law_arrows_here", "_law_most", "_law_found", "_law_waiting", "_law_turn", "_law_order", "_law_free_here", "_law_k"] ["_law_size", "_law_arrows_here", "_law_most"] (defScope sLOrders) := ⟨rfl, rfl, rfl, by decide +kernel, rfl, by decide +kernel, by decide +kernel⟩
theorem scTold : FnScope ["_law_graph", "_law_most", "_law_told", "_law_order"] ["_law_graph", "_law_most"] (defScope sTold) := ⟨rfl, rfl, rfl, by decide +kernel, rfl, by decide +kernel, by decide +kernel⟩
theorem scLaw : FnScope ["_law_script", "_law_pot_here", "_law_size", "_law_arrows_here", "_law_known", "_law_graph", "_law_many", "_law_due", "_law_found", "_law_first"] ["_law_script"] (defScope sLaw) := ⟨rfl, rfl, rfl, by decide +kernel, rfl, by decide +kernel, by decide +kernel⟩

/-! ### built-ins by name -/
theorem b_int : bootBuiltins "int" = some (.type "int") := by decide +kernel
theorem b_list : bootBuiltins "list" = some (.type "list") := by decide +kernel
theorem b_tuple : bootBuiltins "tuple" = some (.type "tuple") := by decide +kernel
theorem b_set : bootBuiltins "set" = some (.type "set") := by decide +kernel
theorem b_bool : bootBuiltins "bool" = some (.type "bool") := by decide +kernel
theorem b_range : bootBuiltins "range" = some (.type "range") := by decide +kernel
theorem b_len : bootBuiltins "len" = some (.builtin "len") := by decide +kernel
theorem b_abs : bootBuiltins "abs" = some (.builtin "abs") := by decide +kernel
theorem b_sum : bootBuiltins "sum" = some (.builtin "sum") := by decide +kernel
theorem b_sorted : bootBuiltins "sorted" = some (.builtin "sorted") := by decide +kernel
theorem b_min : bootBuiltins "min" = some (.builtin "min") := by decide +kernel
theorem b_any : bootBuiltins "any" = some (.builtin "any") := by decide +kernel
theorem b_isinstance : bootBuiltins "isinstance" = some (.builtin "isinstance") := by decide +kernel
end K65

namespace K65
open PySem L2
/-- a pot: a seed and a number -/
def Pot (H : Hp) (a : Addr) : Prop := ∃ s b : Int, H a = some (.lst [.int s, .int b]) ∧ 0 ≤ s ∧ s < 2147483647 ∧ 0 ≤ b
def SameBut (a : Addr) (H H' : Hp) : Prop := ∀ c o, c ≠ a → H c = some o → H' c = some o
theorem SameBut.set {a : Addr} {H : Hp} {o : HO} : SameBut a H (upd H a o) := fun c u hc h => by rw [upd_ne hc]; exact h
theorem SameBut.trans {a : Addr} {H H1 H2 : Hp} (x : SameBut a H H1) (y : SameBut a H1 H2) : SameBut a H H2 := fun c o hc h => y c o hc (x c o hc h)
theorem upd_keep {H : Hp} {p b : Addr} {o u : HO} (h : H p = none) (e : H b = some u) : L2.upd H p o b = some u := by
  rw [upd_ne (ne_of_none e h)]; exact e
theorem upd_oth {H : Hp} {p b : Addr} {o u : HO} (h : b ≠ p) (e : H b = some u) : L2.upd H p o b = some u := by
  rw [upd_ne h]; exact e
theorem same_ap {H H' : Hp} {b : Addr} {u : HO} (s : Same H H') (e : H b = some u) : H' b = some u := s _ _ e
theorem but_ap {a : Addr} {H H' : Hp} {b : Addr} {u : HO} (s : SameBut a H H') (n : b ≠ a) (e : H b = some u) : H' b = some u := s _ _ n e
theorem none_same {H H' : Hp} {b : Addr} (s : Same H H') (e : H' b = none) : H b = none := s.free e
theorem none_upd {H : Hp} {p b : Addr} {o : HO} (e : L2.upd H p o b = none) : H b = none := by
  by_cases h : b = p
  · rw [h, upd_same] at e; cases e
  · rwa [upd_ne h] at e
theorem same_new {H : Hp} {p : Addr} {o : HO} (h : H p = none) : Same H (L2.upd H p o) := fun _ _ e => upd_keep h e
theorem same_upd {H H1 : Hp} {p : Addr} {o : HO} (s : Same H H1) (h : H1 p = none) : Same H (L2.upd H1 p o) := s.trans (same_new h)
theorem same_but {a : Addr} {H H' : Hp} (s : Same H H') : SameBut a H H' := fun c o _ h => s c o h
theorem but_none {a : Addr} {H H' : Hp} {b : Addr} {u : HO} (s : SameBut a H H') (e : H' b = none) (h : H' a = some u) : H b = none := by
  cases q : H b with
  | none => rfl
  | some o =>
    by_cases n : b = a
    · rw [n, h] at e; cases e
    · rw [s _ _ n q] at e; cases e
local macro_rules | `(tactic| walk_at "hs") => `(tactic| with_reducible repeat' first | assumption | exact upd_same | refine upd_keep (by assumption) ?_ | refine upd_oth (by first | assumption | exact Ne.symm (by assumption)) ?_ | refine same_ap (by assumption) ?_ | refine but_ap (by assumption) (by assumption) ?_)
local macro_rules | `(tactic| walk_at "hn") => `(tactic| with_reducible first | assumption | exact none_upd (by assumption) | exact none_upd (none_upd (by assumption)) | exact none_upd (none_upd (none_upd (by assumption))) | exact none_upd (none_upd (none_upd (none_upd (by assumption)))) | exact none_upd (none_upd (none_upd (none_upd (none_upd (by assumption))))) | exact none_upd (none_upd (none_upd (none_upd (none_upd (none_upd (by assumption)))))))
local macro_rules | `(tactic| walk_at "hS") => `(tactic| with_reducible repeat' first | exact Same.refl _ | assumption | refine same_upd ?_ ?_)
def spDraw : Sp := fun vs H Q _ => ∃ (a : Addr) (m : Int), vs = [.ref a, .int m] ∧ 0 < m ∧ Pot H a ∧ ∀ H' z, SameBut a H H' → Pot H' a → 0 ≤ z → z < m → Q (.int z) H'
section
variable {P : Program} {w : World} {K : PySem.W.Frag} {mg : Str → Option Value} {base : Heap}
theorem ok_draw {f : Addr} {fd : FuncData} (F : Fun K "_law_draw" "_law_draw" sDraw f fd) (zint : mg "int" = none) : FnOk P w K mg base CX0 1 f fd ["_law_pot_here", "_law_many"] spDraw := by
  refine F.ok scDraw (fun vs H Q E h => ?_) (fun cdv A outer s H vs Q E hr h => ?_)
  · obtain ⟨a, m, rfl, _⟩ := h
    rfl
  · obtain ⟨a, m, rfl, hm, ⟨z, b, hp, hz0, hz1, hb⟩, k⟩ := h
    refine ⟨_, pss_cons (ps_if (pt_cmpR op_eq (pe_ix ix_list (pv 0) pe_int (fun _ _ => rfl)) pe_int (nomark _))
        (pss_cons (ps_set (i := 2) scDraw.nd rfl (.inl rfl) (pe_op op_mod (pe_op op_mod (pe_callTy call_int1 (by rfl) zint b_int (pa_cons (pe_ix ix_list (pv 0) pe_int (fun _ _ => rfl)) pa_nil)) pe_int) (pv 1)))
          (pss_cons (ps_asg (pe_op op_fdiv (pe_callTy call_int1 (by rfl) zint b_int (pa_cons (pe_ix ix_list (pv 0) pe_int (fun _ _ => rfl)) pa_nil)) pe_int) (pg_sub (pv 0) pe_int set_list))
            (pss_one (ps_ret (pv 2))))) pss_nil)
      (pss_cons (ps_asg (pe_op op_mod (pe_callTy call_int1 (by rfl) zint b_int (pa_cons (pe_op op_mul (pe_ix ix_list (pv 0) pe_int (fun _ _ => rfl)) pe_int) pa_nil)) pe_int) (pg_sub (pv 0) pe_int set_list))
        (pss_one (ps_ret (pe_op op_mod (pe_op op_mod (pe_callTy call_int1 (by rfl) zint b_int (pa_cons (pe_op op_mul (pe_ix ix_list (pv 0) pe_int (fun _ _ => rfl)) (pe_ix ix_list (pv 0) pe_int (fun _ _ => rfl))) pa_nil)) pe_int) (pv 1))))), ?_⟩
    refine ⟨_, rfl, a, _, _, _, rfl, rfl, SqL.of hp, rfl, rfl, _, rfl, ite2 (fun _ => ?_) (fun _ => ?_)⟩
    · refine ⟨_, rfl, a, _, _, _, rfl, rfl, SqL.of hp, rfl, .inl ⟨_, rfl, _, _, rfl, rfl, (by show (0 : Int) < 1000; decide), _, rfl, _, _, rfl, rfl, hm, ?_⟩⟩
      refine ⟨_, rfl, a, _, _, _, rfl, rfl, SqL.of hp, rfl, .inl ⟨_, rfl, _, _, rfl, rfl, ⟨by decide, by decide⟩, _, rfl, a, _, _, 1, rfl, rfl, hp, rfl, ?_⟩⟩
      refine ⟨_, rfl, k _ _ SameBut.set ⟨z, b / 1000, upd_same, hz0, hz1, by omega⟩ (Int.emod_nonneg _ (by omega)) (Int.emod_lt_of_pos _ hm)⟩
    · refine ⟨_, rfl, a, _, _, _, rfl, rfl, SqL.of hp, rfl, _, _, rfl, rfl, .inl ⟨by omega, by omega⟩, .inl ⟨_, rfl, _, _, rfl, rfl, (by show (0 : Int) < 2147483647; decide), _, rfl, a, _, _, 0, rfl, rfl, hp, rfl, ?_⟩⟩
      have hp2 : upd H a (.lst [.int (z * 48271 % 2147483647), .int b]) a = some (.lst [.int (z * 48271 % 2147483647), .int b]) := upd_same
      have h0 : 0 ≤ z * 48271 % 2147483647 := Int.emod_nonneg _ (by decide)
      have h1 : z * 48271 % 2147483647 < 2147483647 := Int.emod_lt_of_pos _ (by decide)
      refine ⟨_, rfl, a, _, _, _, rfl, rfl, SqL.of hp2, rfl, _, rfl, a, _, _, _, rfl, rfl, SqL.of hp2, rfl, _, _, rfl, rfl, .inl ⟨by omega, by omega⟩, .inl ⟨_, rfl, _, _, rfl, rfl, (by show (0 : Int) < 2147483629; decide), _, rfl, _, _, rfl, rfl, hm, ?_⟩⟩
      exact k _ _ SameBut.set ⟨_, b, hp2, h0, h1, hb⟩ (Int.emod_nonneg _ (by omega)) (Int.emod_lt_of_pos _ hm)
end
end K65

namespace K65
open PySem L2
local macro_rules | `(tactic| walk_at "hs") => `(tactic| with_reducible repeat' first | assumption | exact upd_same | refine upd_keep (by assumption) ?_ | refine upd_oth (by first | assumption | exact Ne.symm (by assumption)) ?_ | refine same_ap (by assumption) ?_ | refine but_ap (by assumption) (by assumption) ?_)
local macro_rules | `(tactic| walk_at "hn") => `(tactic| with_reducible first | assumption | exact none_upd (by assumption) | exact none_upd (none_upd (by assumption)) | exact none_upd (none_upd (none_upd (by assumption))) | exact none_upd (none_upd (none_upd (none_upd (by assumption)))) | exact none_upd (none_upd (none_upd (none_upd (none_upd (by assumption))))) | exact none_upd (none_upd (none_upd (none_upd (none_upd (none_upd (by assumption)))))))
local macro_rules | `(tactic| walk_at "hS") => `(tactic| with_reducible repeat' first | exact Same.refl _ | assumption | refine same_upd ?_ ?_)
theorem Pot.ne {H : Hp} {a p : Addr} (h : Pot H a) (hp : H p = none) : a ≠ p := by
  obtain ⟨z, b, e, _⟩ := h
  exact ne_of_none e hp
theorem Pot.same {H H' : Hp} {a : Addr} (h : Pot H a) (s : Same H H') : Pot H' a := by
  obtain ⟨z, b, e, q⟩ := h
  exact ⟨z, b, s _ _ e, q⟩
theorem cut_take {l : List Int} {k : Nat} (h : k ≤ l.length) : cutV (l.map V.int) none (some (k : Int)) = (l.take k).map V.int := by
  unfold cutV
  rw [HT.sIx_none, HT.sIx_nat, List.length_map, Nat.min_eq_left h, List.drop_zero, Nat.sub_zero, List.map_take]
theorem cut_drop {l : List Int} {k : Nat} (h : k ≤ l.length) : cutV (l.map V.int) (some (k : Int)) none = (l.drop k).map V.int := by
  unfold cutV
  rw [HT.sIx_none, HT.sIx_nat, List.length_map, Nat.min_eq_left h, List.map_drop, List.take_of_length_le (by simp)]
theorem nodes_succ (i : Nat) : nodes (i + 1) = nodes i ++ [(1 : Int) + (i : Int)] := by
  unfold nodes
  rw [List.range_succ, List.map_append]
  rfl
/-- the pot: a new list -/
def spPot (K : PySem.W.Frag) : Sp := fun vs H Q _ => ∃ (a : Addr) (ns : List Int) (k : Nat), vs = [.ref a, .int (k : Int)] ∧ SqL K H a (ns.map V.int) ∧ ns.length ≤ 63 ∧ ∀ H' p, Same H H' → H p = none → Pot H' p → Q (.ref p) H'
/-- the nodes in a drawn line -/
def spLined : Sp := fun vs H Q _ => ∃ (a : Addr) (n : Nat), vs = [.ref a, .int (n : Int)] ∧ n ≤ 8 ∧ Pot H a ∧ ∀ (H' : Hp) (p : Addr) (l : List Int), SameBut a H H' → Pot H' a → H p = none → H' p = some (.lst (l.map V.int)) → l.Perm (nodes n) → Q (.ref p) H'
section
variable {P : Program} {w : World} {K : PySem.W.Frag} {mg : Str → Option Value} {base : Heap}
theorem ok_pot {f : Addr} {fd : FuncData} (F : Fun K "_law_pot" "_law_pot" sPot f fd) (zint : mg "int" = none) (zlen : mg "len" = none) (zabs : mg "abs" = none) : FnOk P w K mg base CX0 1 f fd ["_law_script", "_law_k"] (spPot K) := by
  refine F.ok scPot (fun vs H Q E h => ?_) (fun cdv A outer s H vs Q E hr h => ?_)
  · obtain ⟨a, m, k, rfl, _⟩ := h
    rfl
  · obtain ⟨a, ns, i, rfl, hs, hl, k⟩ := h
    refine ⟨_, pss_cons (ps_set (i := 2) scPot.nd rfl (.inl rfl) pe_int)
      (pss_cons (ps_if (pt_cmpR op_lt (pv 1) (pe_callB call_len_seq (by rfl) zlen b_len (pa_cons (pv 0) pa_nil)) (nomark _))
        (pss_one (ps_set (i := 2) scPot.nd rfl (.inl rfl) (pe_callB call_abs (by rfl) zabs b_abs (pa_cons (pe_ix ix_list (pv 0) (pv 1) (fun _ _ => rfl)) pa_nil)))) pss_nil)
      (pss_cons (ps_if (pt_cmpR op_lt (pv 2) (pe_op op_pow pe_int pe_int) (nomark _))
        (pss_one (ps_ret (pe_lst (pa_cons (pe_op op_mod (pe_callTy call_int1 (by rfl) zint b_int (pa_cons (pv 2) pa_nil)) pe_int) (pa_cons pe_int pa_nil))))) pss_nil)
      (pss_one (ps_ret (pe_lst (pa_cons pe_int (pa_cons (pe_op op_sub (pv 2) (pe_op op_pow pe_int pe_int)) pa_nil))))))), ?_⟩
    have tail : ∀ z : Int, 0 ≤ z → tSeq (tIfS (tTest (tOp (rI0 fun i j => .bl (decide (i < j))) (tVar 2) (tOp (rI CPow fun i j => .int (i ^ j.toNat)) (tC (.int 10)) (tC (.int 18)))))
        (tRet (tLst (tCons (tOp (rI (fun _ j => 0 < j) fun i j => .int (i % j)) (tCB (fun xs H Q => (∃ i, xs = [.int i] ∧ Q (.int i) H) ∨ ∃ k, xs = [.bl k] ∧ Q (.int (if k then 1 else 0)) H) (tCons (tVar 2) tNil)) (tC (.int 2147483647))) (tCons (tC (.int 0)) tNil)))) tNext)
        (tRet (tLst (tCons (tC (.int 0)) (tCons (tOp (rI0 fun i j => .int (i - j)) (tVar 2) (tOp (rI CPow fun i j => .int (i ^ j.toNat)) (tC (.int 10)) (tC (.int 18)))) tNil))))
        { nx := fun _ H' => Q .non H', rt := Q } [some (.ref a), some (.int i), some (.int z)] H := fun z hz => by
      refine ⟨_, rfl, _, _, rfl, rfl, ⟨by decide, by decide, by decide⟩, _, _, rfl, rfl, _, rfl, ite2 (fun c => ?_) (fun c => ?_)⟩
      · refine ⟨_, rfl, .inl ⟨_, rfl, _, _, rfl, rfl, (by show (0 : Int) < 2147483647; decide), (show 2 ≤ sizeLine by decide), fun p hp => ?_⟩⟩
        exact k _ p (same_new hp) hp ⟨_, 0, upd_same, Int.emod_nonneg _ (by decide), Int.emod_lt_of_pos _ (by decide), by decide⟩
      · refine ⟨_, rfl, _, _, rfl, rfl, ⟨by decide, by decide, by decide⟩, _, _, rfl, rfl, (show 2 ≤ sizeLine by decide), fun p hp => ?_⟩
        refine k _ p (same_new hp) hp ⟨0, _, upd_same, by decide, by decide, ?_⟩
        have c' : ¬ (z < 10 ^ (18 : Int).toNat) := by simpa using c
        show 0 ≤ z - 10 ^ (18 : Int).toNat
        omega
    refine ⟨_, rfl, _, rfl, a, _, rfl, .inl hs, _, _, rfl, rfl, _, rfl, ite2 (fun c => ?_) (fun c => tail 0 (by decide))⟩
    have c' : i < ns.length := by
      have := of_decide_eq_true c
      rw [List.length_map] at this
      omega
    have hx : (ns.map V.int)[i]? = some (.int ns[i]) := by rw [List.getElem?_map, List.getElem?_eq_getElem c']; rfl
    refine ⟨_, rfl, _, rfl, a, _, _, _, rfl, rfl, hs, atI_nat hx, _, rfl, tail _ ?_⟩
    split <;> omega
theorem ok_lined {f fD : Addr} {fd fdD : FuncData} (F : Fun K "_law_lined" "_law_lined" sLined f fd) (GD : FnOk P w K mg base CX0 1 fD fdD ["_law_pot_here", "_law_many"] spDraw) (bD : Binds K fdD ["_law_pot_here", "_law_many"] []) (mD : mg "_law_draw" = some (.ref fD)) (kD : PySem.W.keepIn K (.ref fD) = true)
    (zrange : mg "range" = none) (zlen : mg "len" = none) : FnOk P w K mg base CX0 2 f fd ["_law_pot_here", "_law_size"] spLined := by
  refine F.ok scLined (fun vs H Q E h => ?_) (fun cdv A outer s H vs Q E hr h => ?_)
  · obtain ⟨a, m, rfl, _⟩ := h
    rfl
  · obtain ⟨a, n, rfl, hn, hp, k⟩ := h
    refine ⟨_, pss_cons (ps_set (i := 2) scLined.nd rfl (.inl rfl) (pe_lst pa_nil))
      (pss_cons (ps_for PassesOwn.never rfl (pi_range2 (by rfl) zrange (pa_cons pe_int (pa_cons (pe_op op_add (pv 1) pe_int) pa_nil))) (pg_name (i := 3) scLined.nd rfl (.inl rfl))
        (pss_cons (ps_set (i := 4) scLined.nd rfl (.inl rfl) (pe_call GD hr (by rfl) mD kD bD .nil pass0 (pa_cons (pv 0) (pa_cons (pe_op op_add (pe_callB call_len_seq (by rfl) zlen b_len (pa_cons (pv 2) pa_nil)) pe_int) pa_nil))))
          (pss_one (ps_set (i := 2) scLined.nd rfl (.inl rfl) (pe_op op_cat (pe_op op_cat (pe_slice sl_list (pv 2) po_none (po_some (pv 4))) (pe_lst (pa_cons (pv 3) pa_nil))) (pe_slice sl_list (pv 2) (po_some (pv 4)) po_none))))))
      (pss_one (ps_ret (pv 2)))), ?_⟩
    refine ⟨Nat.zero_le _, fun p0 hp0 => ?_⟩
    refine ⟨_, rfl, _, _, rfl, rfl, _, _, rfl, ⟨by decide, by decide, by omega, by omega⟩, for_range (lo := 1) (n := ((n : Int) + 1 - 1).toNat) (fun i σ H' => i ≤ n ∧ ∃ (l : List Int) (p : Addr) (x y : Option V), σ = [some (.ref a), some (.int n), some (.ref p), x, y] ∧ SameBut a H H' ∧ Pot H' a ∧ H p = none ∧ H' p = some (.lst (l.map V.int)) ∧ l.Perm (nodes i))
      ⟨Nat.zero_le _, [], p0, none, none, rfl, same_but (same_new hp0), hp.same (same_new hp0), hp0, upd_same, List.Perm.refl _⟩ ?_ ?_⟩
    · rintro i σ H1 hi ⟨hin, l, p, x, y, rfl, sb, pt, hp1, h1, pm⟩
      have hi : i < n := by omega
      have ll : l.length = i := by rw [pm.length_eq, length_nodes]
      refine ⟨_, rfl, _, rfl, p, _, rfl, .inl (SqL.of h1), _, _, rfl, rfl, a, _, rfl, (by omega), pt, fun H2 z sb2 pt2 z0 z1 => ?_⟩
      have pa : p ≠ a := fun e => by
        obtain ⟨q, b, e1, _⟩ := hp
        rw [e, e1] at hp1
        cases hp1
      have h2 : H2 p = some (.lst (l.map V.int)) := sb2 _ _ pa h1
      obtain ⟨j, rfl⟩ : ∃ j : Nat, z = (j : Int) := ⟨z.toNat, by omega⟩
      have hj : j ≤ l.length := by
        rw [List.length_map] at z1
        omega
      -- line[:at] + [node] + line[at:]
      refine ⟨_, rfl, _, rfl, _, rfl, p, _, rfl, SqL.of h2, fun p3 hp3 => ⟨_, rfl, (show 1 ≤ sizeLine by decide), fun p4 hp4 => ?_⟩⟩
      rw [cut_take hj] at hp4 ⊢
      refine ⟨p3, p4, _, _, rfl, rfl, by walk_at "hs", by walk_at "hs", by rw [List.length_map, List.length_take]; exact Nat.le_trans (show _ ≤ 10 by simp; omega) (by decide), fun p5 hp5 => ?_⟩
      refine ⟨_, rfl, _, rfl, _, rfl, p, _, rfl, SqL.of (by walk_at "hs"), fun p6 hp6 => ?_⟩
      rw [cut_drop hj]
      refine ⟨p5, p6, _, _, rfl, rfl, by walk_at "hs", by walk_at "hs", ?_, fun p7 hp7 => ?_⟩
      · simp only [List.length_append, List.length_map, List.length_take, List.length_drop, List.length_cons, List.length_nil]
        exact Nat.le_trans (show _ ≤ 20 by omega) (by decide)
      have s27 : Same H2 (L2.upd (L2.upd (L2.upd (L2.upd (L2.upd H2 p3 (.lst ((l.take j).map V.int))) p4 (.lst [.int (1 + (i : Int))])) p5 (.lst ((l.take j).map V.int ++ [.int (1 + (i : Int))]))) p6 (.lst ((l.drop j).map V.int))) p7 (.lst (((l.take j).map V.int ++ [.int (1 + (i : Int))]) ++ (l.drop j).map V.int))) := by walk_at "hS"
      have h7 := upd_same (H := L2.upd (L2.upd (L2.upd (L2.upd H2 p3 (.lst ((l.take j).map V.int))) p4 (.lst [.int (1 + (i : Int))])) p5 (.lst ((l.take j).map V.int ++ [.int (1 + (i : Int))]))) p6 (.lst ((l.drop j).map V.int))) (a := p7) (o := .lst (((l.take j).map V.int ++ [.int (1 + (i : Int))]) ++ (l.drop j).map V.int))
      refine ⟨by omega, l.take j ++ [1 + (i : Int)] ++ l.drop j, p7, _, _, rfl, (sb.trans sb2).trans (same_but s27), pt2.same s27, ?_, ?_, ?_⟩
      · obtain ⟨q, b, e, _⟩ := pt2
        exact but_none (sb.trans sb2) (by walk_at "hn") e
      · rw [show (l.take j ++ [1 + (i : Int)] ++ l.drop j).map V.int = ((l.take j).map V.int ++ [.int (1 + (i : Int))]) ++ (l.drop j).map V.int by simp]
        exact h7
      · rw [nodes_succ]
        have e : (l.take j ++ [1 + (i : Int)] ++ l.drop j).Perm ((1 + (i : Int)) :: (l.take j ++ l.drop j)) := by
          rw [List.append_assoc]
          exact List.perm_middle
        refine e.trans ?_
        rw [List.take_append_drop]
        exact (List.Perm.cons _ pm).trans (List.perm_append_singleton _ _).symm
    · rintro σ H1 ⟨_, l, p, x, y, rfl, sb, pt, hp1, h1, pm⟩
      rw [show ((n : Int) + 1 - 1).toNat = n by omega] at pm
      exact ⟨_, rfl, k _ _ l sb pt hp1 h1 pm⟩
end
end K65

namespace K65
open PySem L2
local macro_rules | `(tactic| walk_at "hs") => `(tactic| with_reducible repeat' first | assumption | exact upd_same | refine upd_keep (by assumption) ?_ | refine upd_oth (by first | assumption | exact Ne.symm (by assumption)) ?_ | refine same_ap (by assumption) ?_ | refine but_ap (by assumption) (by assumption) ?_)
local macro_rules | `(tactic| walk_at "hn") => `(tactic| with_reducible first | assumption | exact none_upd (by assumption) | exact none_upd (none_upd (by assumption)) | exact none_upd (none_upd (none_upd (by assumption))) | exact none_upd (none_upd (none_upd (none_upd (by assumption)))) | exact none_upd (none_upd (none_upd (none_upd (none_upd (by assumption))))) | exact none_upd (none_upd (none_upd (none_upd (none_upd (none_upd (by assumption)))))))
local macro_rules | `(tactic| walk_at "hS") => `(tactic| with_reducible repeat' first | exact Same.refl _ | assumption | refine same_upd ?_ ?_)
/-- tuples of two numbers stand at ps -/
def Arrs (H : Hp) (ps : List Addr) (ar : Arr) : Prop := Paired (fun p (a : Int × Int) => H p = some (.tup [.int a.1, .int a.2])) ps ar
theorem Arrs.same {H H' : Hp} {ps : List Addr} {ar : Arr} (h : Arrs H ps ar) (s : ∀ p xs, H p = some (.tup xs) → H' p = some (.tup xs)) : Arrs H' ps ar := L2.Paired.mapP h fun _ _ e => s _ _ e
theorem Paired.snoc {α β : Type} {F : α → β → Prop} : ∀ {l : List α} {m : List β} {x : α} {y : β}, Paired F l m → F x y → Paired F (l ++ [x]) (m ++ [y])
  | _, _, _, _, .nil, h => .cons h .nil
  | _, _, _, _, .cons r t, h => .cons r (Paired.snoc t h)
/-- arrows between different nodes -/
def ArOk (n : Nat) (ar : Arr) : Prop := ∀ a ∈ ar, a.1 ≠ a.2 ∧ (1 ≤ a.1 ∧ a.1 ≤ n) ∧ (1 ≤ a.2 ∧ a.2 ≤ n)
theorem but_new {a : Addr} {H H1 : Hp} {p : Addr} {o : HO} (s : SameBut a H H1) (h : H1 p = none) : SameBut a H (L2.upd H1 p o) := s.trans (same_but (same_new h))
theorem but_old {a : Addr} {H H1 : Hp} {p : Addr} {o : HO} (s : SameBut a H H1) (h : H p = none) : SameBut a H (L2.upd H1 p o) := fun c u hc e => by
  rw [upd_ne (ne_of_none e h)]; exact s c u hc e
theorem pot_upd {H : Hp} {a p : Addr} {o : HO} (h : Pot H a) (hp : a ≠ p) : Pot (L2.upd H p o) a := by
  obtain ⟨z, b, e, q⟩ := h
  exact ⟨z, b, by rw [upd_ne hp]; exact e, q⟩
def spArrows : Sp := fun vs H Q _ => ∃ (a : Addr) (n : Nat), vs = [.ref a, .int (n : Int)] ∧ n ≤ 8 ∧ Pot H a ∧ ∀ (H' : Hp) (p : Addr) (ps : List Addr) (ar : Arr), SameBut a H H' → Pot H' a → H p = none → H' p = some (.lst (ps.map V.ref)) → Arrs H' ps ar → ArOk n ar → ar.length ≤ 11 → Q (.ref p) H'
section
variable {P : Program} {w : World} {K : PySem.W.Frag} {mg : Str → Option Value} {base : Heap}
theorem ok_arrows {f fD fL : Addr} {fd fdD fdL : FuncData} (F : Fun K "_law_arrows" "_law_arrows" sArrows f fd) (GD : FnOk P w K mg base CX0 1 fD fdD ["_law_pot_here", "_law_many"] spDraw) (bD : Binds K fdD ["_law_pot_here", "_law_many"] []) (mD : mg "_law_draw" = some (.ref fD)) (kD : PySem.W.keepIn K (.ref fD) = true)
    (GL : FnOk P w K mg base CX0 2 fL fdL ["_law_pot_here", "_law_size"] spLined) (bL : Binds K fdL ["_law_pot_here", "_law_size"] []) (mL : mg "_law_lined" = some (.ref fL)) (kL : PySem.W.keepIn K (.ref fL) = true)
    (zrange : mg "range" = none) (zint : mg "int" = none) : FnOk P w K mg base CX0 3 f fd ["_law_pot_here", "_law_size"] spArrows := by
  refine F.ok scArrows (fun vs H Q E h => ?_) (fun cdv A outer s H vs Q E hr h => ?_)
  · obtain ⟨a, m, rfl, _⟩ := h
    rfl
  · obtain ⟨a, n, rfl, hn, hp, k⟩ := h
    have hr1 : Room 1 _ := hr.mono (by decide)
    refine ⟨_, pss_cons (ps_set (i := 2) scArrows.nd rfl (.inl rfl) (pe_call GL hr (by rfl) mL kL bL .nil pass0 (pa_cons (pv 0) (pa_cons (pv 1) pa_nil))))
      (pss_cons (ps_set (i := 3) scArrows.nd rfl (.inl rfl) (pe_cmpR op_eq (pe_call GD hr1 (by rfl) mD kD bD .nil pass0 (pa_cons (pv 0) (pa_cons pe_int pa_nil))) pe_int (nomark _)))
      (pss_cons (ps_set (i := 4) scArrows.nd rfl (.inl rfl) (pe_cmpR op_eq (pe_call GD hr1 (by rfl) mD kD bD .nil pass0 (pa_cons (pv 0) (pa_cons pe_int pa_nil))) pe_int (nomark _)))
      (pss_cons (ps_set (i := 5) scArrows.nd rfl (.inl rfl) (pe_call GD hr1 (by rfl) mD kD bD .nil pass0 (pa_cons (pv 0) (pa_cons pe_int pa_nil))))
      (pss_cons (ps_set (i := 6) scArrows.nd rfl (.inl rfl) (pe_lst pa_nil))
      (pss_cons (ps_for PassesOwn.never rfl (pi_range1 (by rfl) zrange (pa_cons (pv 5) pa_nil)) (pg_name (i := 7) scArrows.nd rfl (.inl rfl))
        (pss_one (ps_if (pt_cmpR op_gt (pv 1) pe_int (nomark _))
          (pss_cons (ps_set (i := 8) scArrows.nd rfl (.inl rfl) (pe_call GD hr1 (by rfl) mD kD bD .nil pass0 (pa_cons (pv 0) (pa_cons (pv 1) pa_nil))))
          (pss_cons (ps_set (i := 9) scArrows.nd rfl (.inl rfl) (pe_op op_add pe_int (pe_call GD hr1 (by rfl) mD kD bD .nil pass0 (pa_cons (pv 0) (pa_cons (pe_op op_sub (pv 1) pe_int) pa_nil)))))
          (pss_cons (ps_set (i := 10) scArrows.nd rfl (.inl rfl) (pe_lst (pa_cons (pe_ix ix_list (pv 2) (pv 8) (fun _ _ => rfl)) (pa_cons (pe_ix ix_list (pv 2) (pe_op op_mod (pe_callTy call_int1 (by rfl) zint b_int (pa_cons (pe_op op_add (pv 8) (pv 9)) pa_nil)) (pv 1)) (fun _ _ => rfl)) pa_nil))))
          (Evl.pss_cut (ps_if (PW.pt (pw_and (pt_val (pv 3)) (pw_and1 (pt_cmpR op_ge (pe_op op_add (pv 8) (pv 9)) (pv 1) (nomark _)))))
            (pss_one (ps_set (i := 10) scArrows.nd rfl (.inl rfl) (pe_lst (pa_cons (pe_ix ix_list (pv 10) pe_int (fun _ _ => rfl)) (pa_cons (pe_ix ix_list (pv 10) pe_int (fun _ _ => rfl)) pa_nil))))) pss_nil)
          (Evl.pss_cut (ps_if (PW.pt (pw_and (pt_val (pv 3)) (pw_and (pt_val (pv 4)) (pw_and1 (pt_cmpR op_eq (pv 7) (pe_op op_sub (pv 5) pe_int) (nomark _))))))
            (pss_one (ps_set (i := 10) scArrows.nd rfl (.inl rfl) (pe_lst (pa_cons (pe_ix ix_list (pv 10) pe_int (fun _ _ => rfl)) (pa_cons (pe_ix ix_list (pv 10) pe_int (fun _ _ => rfl)) pa_nil))))) pss_nil)
          (pss_one (ps_expr (pe_bm PySem.F.plainAttrs_list PySem.F.slot_list_append PySem.F.type_list_append mt_append (pv 6) (pa_cons (pe_tup (pa_cons (pe_ix ix_list (pv 10) pe_int (fun _ _ => rfl)) (pa_cons (pe_ix ix_list (pv 10) pe_int (fun _ _ => rfl)) pa_nil))) pa_nil)))))))))
          pss_nil)))
      (pss_one (ps_ret (pv 6)))))))), ?_⟩
    refine ⟨_, rfl, _, rfl, a, n, rfl, hn, hp, fun H1 p l sb1 pt1 p0 h1 pm => ?_⟩
    have pa : p ≠ a := fun e => by
      obtain ⟨q, b, e1, _⟩ := hp
      rw [e, e1] at p0
      cases p0
    refine ⟨_, rfl, a, _, rfl, (by decide), pt1, fun H2 z1 sb2 pt2 _ _ => ⟨rfl, ?_⟩⟩
    refine ⟨_, rfl, a, _, rfl, (by decide), pt2, fun H3 z2 sb3 pt3 _ _ => ⟨rfl, ?_⟩⟩
    refine ⟨_, rfl, a, _, rfl, (by decide), pt3, fun H4 m sb4 pt4 m0 m1 => ?_⟩
    refine ⟨Nat.zero_le _, fun pf hpf => ?_⟩
    have hpf4 : H4 pf = none := hpf
    have h4 : H4 p = some (.lst (l.map V.int)) := by walk_at "hs"
    have sb04 : SameBut a H H4 := ((sb1.trans sb2).trans sb3).trans sb4
    have fpf : H pf = none := by
      obtain ⟨q, b, e, _⟩ := pt4
      exact but_none sb04 hpf4 e
    have ppf : p ≠ pf := ne_of_none h4 hpf4
    have apf : a ≠ pf := pt4.ne hpf4
    refine ⟨_, rfl, _, rfl, by omega, by omega, for_range (lo := 0) (n := m.toNat) (fun i σ H' => i ≤ 11 ∧ ∃ (ar : Arr) (ps : List Addr) (x7 x8 x9 x10 : Option V), σ = [some (.ref a), some (.int n), some (.ref p), some (.bl (decide (V.int z1 = V.int 1))), some (.bl (decide (V.int z2 = V.int 1))), some (.int m), some (.ref pf), x7, x8, x9, x10] ∧ SameBut a H H' ∧ Pot H' a ∧ H' p = some (.lst (l.map V.int)) ∧
      H' pf = some (.lst (ps.map V.ref)) ∧ Arrs H' ps ar ∧ ArOk n ar ∧ ar.length ≤ i) ⟨Nat.zero_le _, [], [], none, none, none, none, rfl, but_new sb04 hpf4, pot_upd pt4 apf, by walk_at "hs", upd_same, .nil, (fun _ h => by cases h), Nat.le_refl _⟩ ?_ ?_⟩
    · rintro i σ H5 hi ⟨_, ar, ps, x7, x8, x9, x10, rfl, sb, pt, hl5, h5, hA, hO, hl⟩
      have hi : i < 11 := by omega
      refine ⟨_, rfl, _, _, rfl, rfl, _, rfl, ite2 (fun c => ?_) (fun _ => ⟨by omega, ar, ps, _, _, _, _, rfl, sb, pt, hl5, h5, hA, hO, by omega⟩)⟩
      have c : 1 < n := by have := of_decide_eq_true c; omega
      refine ⟨_, rfl, _, rfl, a, _, rfl, (by omega), pt, fun H6 z8 sb6 pt6 g0 g1 => ?_⟩
      refine ⟨_, rfl, _, rfl, _, _, rfl, rfl, a, _, rfl, (by omega), pt6, fun H7 z9 sb7 pt7 e0 e1 => ⟨_, _, rfl, rfl, ?_⟩⟩
      have l7 : H7 p = some (.lst (l.map V.int)) := by walk_at "hs"
      have f7 : H7 pf = some (.lst (ps.map V.ref)) := sb7 _ _ apf.symm (sb6 _ _ apf.symm h5)
      have A7 : Arrs H7 ps ar := hA.same fun q xs e => by
        have hqa : q ≠ a := by
          rintro rfl
          obtain ⟨_, _, e', _⟩ := pt
          rw [e'] at e
          cases e
        exact sb7 _ _ hqa (sb6 _ _ hqa e)
      have sb07 : SameBut a H H7 := (sb.trans sb6).trans sb7
      obtain ⟨j, rfl⟩ : ∃ j : Nat, z8 = (j : Int) := ⟨z8.toNat, by omega⟩
      obtain ⟨d, rfl⟩ : ∃ j : Nat, z9 = (j : Int) := ⟨z9.toNat, by omega⟩
      have ll : l.length = n := by rw [pm.length_eq, length_nodes]
      have nd : l.Nodup := pm.nodup_iff.mpr (nodup_nodes n)
      have hj : j < l.length := by omega
      have hm : (j + (1 + d)) % n < l.length := by rw [ll]; exact Nat.mod_lt _ (by omega)
      have em : ((j : Int) + (1 + (d : Int))) % (n : Int) = (((j + (1 + d)) % n : Nat) : Int) := by norm_cast
      have hx : (l.map V.int)[j]? = some (.int l[j]) := by rw [List.getElem?_map, List.getElem?_eq_getElem hj]; rfl
      have hy : (l.map V.int)[(j + (1 + d)) % n]? = some (.int l[(j + (1 + d)) % n]) := by rw [List.getElem?_map, List.getElem?_eq_getElem hm]; rfl
      have nxy : l[j] ≠ l[(j + (1 + d)) % n] := fun e => by
        have := (List.getElem_inj nd).mp e
        have h1 : d < n - 1 := by omega
        rcases Nat.lt_or_ge (j + (1 + d)) n with q | q
        · rw [Nat.mod_eq_of_lt q] at this; omega
        · rw [Nat.mod_eq_sub_mod q, Nat.mod_eq_of_lt (by omega)] at this; omega
      have bx : 1 ≤ l[j] ∧ l[j] ≤ n := mem_nodes.mp (pm.mem_iff.mp (List.getElem_mem hj))
      have bY : 1 ≤ l[(j + (1 + d)) % n] ∧ l[(j + (1 + d)) % n] ≤ n := mem_nodes.mp (pm.mem_iff.mp (List.getElem_mem hm))
      refine ⟨_, rfl, _, rfl, p, _, _, _, rfl, rfl, SqL.of l7, atI_nat hx, _, rfl, _, rfl, _, rfl, _, _, rfl, rfl, .inl ⟨_, rfl, _, rfl, _, _, rfl, rfl, (by omega), p, _, _, _, rfl, rfl, SqL.of l7, at_of em hy, (show 2 ≤ sizeLine by decide), fun q hq => ?_⟩⟩
      -- what holds of the pair
      let Mid : St → Hp → Prop := fun σ H' => ∃ (q : Addr) (x y : Int), σ = [some (.ref a), some (.int n), some (.ref p), some (.bl (decide (V.int z1 = V.int 1))), some (.bl (decide (V.int z2 = V.int 1))), some (.int m), some (.ref pf), some (.int (0 + (i : Int))), some (.int j), some (.int (1 + (d : Int))), some (.ref q)] ∧ Same H7 H' ∧ H' q = some (.lst [.int x, .int y]) ∧
        x ≠ y ∧ (1 ≤ x ∧ x ≤ n) ∧ (1 ≤ y ∧ y ≤ n)
      have swap : ∀ σ H', Mid σ H' → tAsg (tLst (tCons (tOp (rIxL K) (tVar 10) (tC (.int 1))) (tCons (tOp (rIxL K) (tVar 10) (tC (.int 0))) tNil))) (gName 10) { nx := Mid, rt := Q } σ H' := fun σ H' ⟨q, x, y, e, sm, hq, ne, b1, b2⟩ => by
        subst e
        refine ⟨_, rfl, q, _, _, _, rfl, rfl, SqL.of hq, rfl, _, rfl, q, _, _, _, rfl, rfl, SqL.of hq, rfl, (show 2 ≤ sizeLine by decide), fun r hr => ?_⟩
        exact ⟨r, y, x, rfl, by walk_at "hS", upd_same, ne.symm, b2, b1⟩
      have M0 : Mid [some (.ref a), some (.int n), some (.ref p), some (.bl (decide (V.int z1 = V.int 1))), some (.bl (decide (V.int z2 = V.int 1))), some (.int m), some (.ref pf), some (.int (0 + (i : Int))), some (.int j), some (.int (1 + (d : Int))), some (.ref q)]
          (L2.upd H7 q (.lst [.int l[j], .int l[(j + (1 + d)) % n]])) := ⟨q, _, _, rfl, by walk_at "hS", upd_same, nxy, bx, bY⟩
      refine ⟨Mid, ⟨_, rfl, _, rfl, ?_⟩, fun σ1 H8 M1 => ⟨Mid, ?_, fun σ2 H9 M2 => ?_⟩⟩
      · refine ite2 (fun _ => ⟨_, rfl, _, rfl, _, _, rfl, rfl, _, rfl, _, _, rfl, rfl, _, rfl, ite2 (fun _ => swap _ _ M0) (fun _ => M0)⟩) (fun _ => iteF M0)
      · obtain ⟨q, x, y, e, r⟩ := id M1
        subst e
        refine ⟨_, rfl, _, rfl, ite2 (fun _ => ⟨_, rfl, _, rfl, ite2 (fun _ => ⟨_, rfl, _, rfl, _, _, rfl, rfl, rfl, _, rfl, ite2 (fun _ => swap _ _ M1) (fun _ => M1)⟩) (fun _ => iteF M1)⟩) (fun _ => iteF M1)⟩
      · obtain ⟨q, x, y, e, s9, hq, ne, b1, b2⟩ := M2
        subst e
        have f9 := s9 _ _ f7
        refine ⟨_, rfl, .inl ⟨rfl, _, SqL.of f9⟩, _, rfl, q, _, _, _, rfl, rfl, SqL.of hq, rfl, _, rfl, q, _, _, _, rfl, rfl, SqL.of hq, rfl, (show 2 ≤ sizeLine by decide), fun t ht => ?_⟩
        have lps : ps.length = ar.length := hA.length
        refine ⟨pf, ps.map V.ref, .ref t, rfl, rfl, by walk_at "hs", by rw [List.length_map]; exact small1000 (by omega), ?_⟩
        have npf : t ≠ pf := fun e => by rw [e, f9] at ht; cases ht
        refine ⟨by omega, ar ++ [(x, y)], ps ++ [t], _, _, _, _, rfl, ?_, ?_, ?_, ?_, ?_, ?_, ?_⟩
        · exact but_old (but_new (sb07.trans (same_but s9)) ht) fpf
        · exact pot_upd ((pt7.same s9).same (same_new ht)) apf
        · rw [upd_ne ppf]; exact upd_keep ht (s9 _ _ l7)
        · rw [upd_same, List.map_append]; rfl
        · have A9 : Arrs (L2.upd (L2.upd H9 t (.tup [.int x, .int y])) pf (.lst (ps.map V.ref ++ [.ref t]))) ps ar := A7.same fun r xs e => by
            have : r ≠ pf := fun z => by rw [z, f7] at e; cases e
            rw [upd_ne this]; exact upd_keep ht (s9 _ _ e)
          exact Paired.snoc A9 (by rw [upd_ne npf]; exact upd_same)
        · intro z hz
          rcases List.mem_append.mp hz with hz | hz
          · exact hO z hz
          · rw [List.mem_singleton.mp hz]; exact ⟨ne, b1, b2⟩
        · rw [List.length_append, List.length_singleton]; omega
    · rintro σ H5 ⟨_, ar, ps, x7, x8, x9, x10, rfl, sb, pt, _, h5, hA, hO, hl⟩
      exact ⟨_, rfl, k _ _ _ _ sb pt fpf h5 hA hO (by omega)⟩
end
end K65

namespace K65
open PySem L2
local macro_rules | `(tactic| walk_at "hs") => `(tactic| with_reducible repeat' first | assumption | exact upd_same | refine upd_keep (by assumption) ?_ | refine upd_oth (by first | assumption | exact Ne.symm (by assumption)) ?_ | refine same_ap (by assumption) ?_ | refine but_ap (by assumption) (by assumption) ?_)
local macro_rules | `(tactic| walk_at "hn") => `(tactic| with_reducible first | assumption | exact none_upd (by assumption) | exact none_upd (none_upd (by assumption)) | exact none_upd (none_upd (none_upd (by assumption))) | exact none_upd (none_upd (none_upd (none_upd (by assumption)))) | exact none_upd (none_upd (none_upd (none_upd (none_upd (by assumption))))) | exact none_upd (none_upd (none_upd (none_upd (none_upd (none_upd (by assumption)))))))
local macro_rules | `(tactic| walk_at "hS") => `(tactic| with_reducible repeat' first | exact Same.refl _ | assumption | refine same_upd ?_ ?_)
/-! ### pairs as data -/
def prD (a : Int × Int) : PyData := .tuple [.int a.1, .int a.2]
/-- two deep at the most, and laid plainly -/
theorem pairs_plain : ∀ zs : List (Int × Int), PyData.canLayAll0 (zs.map prD) = true ∧ PyData.depthAll (zs.map prD) ≤ 2
  | [] => ⟨rfl, Nat.zero_le _⟩
  | (x, y) :: more => by
    obtain ⟨i1, i2⟩ := pairs_plain more
    have two : PyData.depthAll [.int x, .int y] ≤ 1 := by simp [PyData.depthAll, PyData.depth]
    exact ⟨Bool.and_eq_true_iff.mpr ⟨rfl, i1⟩, Nat.max_le.mpr ⟨Nat.succ_le_succ two, i2⟩⟩
theorem prD_shaped (a : Int × Int) : SeqAt.shaped (prD a) = true := by
  have d : PyData.depthAll [.int a.1, .int a.2] ≤ 1 := by simp [PyData.depthAll, PyData.depth]
  exact Bool.and_eq_true_iff.mpr ⟨rfl, decide_eq_true (Nat.le_trans (Nat.succ_le_succ d) (by decide))⟩
theorem prDs_shaped (zs : List (Int × Int)) : SeqAt.shaped (.list (zs.map prD)) = true :=
  Bool.and_eq_true_iff.mpr ⟨(pairs_plain zs).1, decide_eq_true (Nat.le_trans (Nat.succ_le_succ (pairs_plain zs).2) (by decide))⟩
theorem prD_eqv (z w : Int × Int) : PyData.eqv (prD z) (prD w) = decide (z = w) := by
  obtain ⟨a, b⟩ := z
  obtain ⟨c, d⟩ := w
  simp only [prD, PyData.eqv, PyData.eqvAll, Bool.and_true]
  by_cases h1 : a = c <;> by_cases h2 : b = d <;> simp [h1, h2]
theorem any_pr (zs : List (Int × Int)) (z : Int × Int) : ((zs.map prD).any fun d => PyData.eqv d (prD z)) = decide (z ∈ zs) := by
  rw [List.any_map]
  by_cases h : z ∈ zs
  · rw [decide_eq_true h]
    exact List.any_eq_true.mpr ⟨z, h, by simp [prD_eqv]⟩
  · rw [decide_eq_false h]
    refine List.any_eq_false.mpr fun x hx => ?_
    simp only [Function.comp, prD_eqv, decide_eq_true_eq]
    intro e
    exact h (e ▸ hx)
theorem Dp.pr {K : PySem.W.Frag} {H : Hp} {t : Addr} {a : Int × Int} (h : SqT K H t [.int a.1, .int a.2]) : Dp K H (.ref t) (prD a) := .tup h (.cons (.int _) (.cons (.int _) .nil))
theorem Dp.prs {K : PySem.W.Frag} {H : Hp} {l : Addr} : ∀ {ps : List Addr} {ar : Arr}, Arrs H ps ar → DpAll K H (ps.map V.ref) (ar.map prD)
  | _, _, .nil => .nil
  | _, _, .cons h t => .cons (Dp.pr (SqT.of h)) (Dp.prs (l := l) t)

/-! ### the graph -/
theorem sa_ : ¬ (("size" : Str) = "arrows") := by decide +kernel
theorem as_ : ¬ (("arrows" : Str) = "size") := by decide +kernel
def gfs (n : Nat) (t : Addr) : List (Str × V) := putF "arrows" (.ref t) (putF "size" (.int n) [])
theorem gfs_size (n : Nat) (t : Addr) : (gfs n t).lookup ("size" : Str) = some (.int n) := by
  unfold gfs
  rw [lookup_putF, if_neg sa_, lookup_putF, if_pos rfl]
theorem gfs_arrows (n : Nat) (t : Addr) : (gfs n t).lookup ("arrows" : Str) = some (.ref t) := by
  unfold gfs
  rw [lookup_putF, if_pos rfl]
theorem gfs_no (n : Nat) (t : Addr) {m : Str} (h1 : ¬ m = "size") (h2 : ¬ m = "arrows") : (gfs n t).lookup m = none := by
  unfold gfs
  rw [lookup_putF, if_neg h2, lookup_putF, if_neg h1]
  all_goals rfl
structure GraphAt (C : Addr) (H : Hp) (g : Addr) (n : Nat) (ar : Arr) : Prop where
  ex : ∃ (dx t : Addr) (ps : List Addr), H g = some (.ins C dx (gfs n t)) ∧ H t = some (.tup (ps.map V.ref)) ∧ Arrs H ps ar
theorem GraphAt.same {C : Addr} {H H' : Hp} {g : Addr} {n : Nat} {ar : Arr} (h : GraphAt C H g n ar) (s : Same H H') : GraphAt C H' g n ar := by
  obtain ⟨dx, t, ps, h1, h2, h3⟩ := h
  exact ⟨dx, t, ps, s _ _ h1, s _ _ h2, h3.same fun _ _ e => s _ _ e⟩
/-- the class's facts -/
structure GTxt (K : PySem.W.Frag) (mg : Str → Option Value) (C : Addr) : Prop where
  cl : Cls K C
  nS : NoAttr K C "size"
  nA : NoAttr K C "arrows"
def spGInit (K : PySem.W.Frag) (C : Addr) : Sp := fun vs H Q _ => ∃ (g b dx : Addr) (n : Nat) (ps : List Addr) (ar : Arr), vs = [.ref g, .int (n : Int), .ref b] ∧ H g = some (.ins C dx []) ∧ SqT K H b (ps.map V.ref) ∧ Arrs H ps ar ∧ ArOk n ar ∧ ar.length ≤ 11 ∧ n ≤ 8 ∧
  ∀ (H' : Hp) (ar' : Arr), (∀ a, a ∈ ar' ↔ a ∈ ar) → ar'.length ≤ 11 → GraphAt C H' g n ar' → SameBut g H H' → Q .non H'
theorem gfs_put (n : Nat) (t : Addr) : putF "arrows" (.ref t) (putF "size" (.int (n : Int)) []) = gfs n t := rfl
theorem Arrs.perm {H : Hp} {ps qs : List Addr} {ar : Arr} (h : Arrs H ps ar) (p : qs.Perm ps) : ∃ br : Arr, br.Perm ar ∧ Arrs H qs br := by
  induction p generalizing ar with
  | nil => exact ⟨ar, List.Perm.refl _, h⟩
  | cons x p ih =>
    cases h with
    | cons e t =>
      obtain ⟨br, h1, h2⟩ := ih t
      exact ⟨_, h1.cons _, .cons e h2⟩
  | swap x y l =>
    cases h with
    | cons e t =>
      cases t with
      | cons e2 t => exact ⟨_, List.Perm.swap _ _ _, .cons e2 (.cons e t)⟩
  | trans p q ih1 ih2 =>
    obtain ⟨br, h1, h2⟩ := ih2 h
    obtain ⟨cr, h3, h4⟩ := ih1 h2
    exact ⟨cr, h3.trans h1, h4⟩
theorem Arrs.at {H : Hp} : ∀ {ps : List Addr} {ar : Arr} {i : Nat} {p : Addr}, Arrs H ps ar → ps[i]? = some p → ∃ a, ar[i]? = some a ∧ H p = some (.tup [.int a.1, .int a.2])
  | _, _, _, _, .nil, h => by simp at h
  | _, _, 0, _, .cons e _, h => by simp at h; subst h; exact ⟨_, rfl, e⟩
  | _, _, i + 1, _, .cons _ t, h => by
    obtain ⟨a, h1, h2⟩ := Arrs.at (i := i) t (by simpa using h)
    exact ⟨a, by simpa using h1, h2⟩
theorem perm_refs {ys : List V} {ps : List Addr} (h : ys.Perm (ps.map V.ref)) : ∃ qs : List Addr, ys = qs.map V.ref ∧ qs.Perm ps := by
  have hy : ∀ y ∈ ys, ∃ a, y = V.ref a := fun y hy => by
    obtain ⟨a, _, e⟩ := List.mem_map.mp (h.mem_iff.mp hy)
    exact ⟨a, e.symm⟩
  let f : V → Addr := fun v => match v with | .ref a => a | _ => 0
  have e : ys = (ys.map f).map V.ref := by
    rw [List.map_map]
    refine (List.map_id ys).symm.trans (List.map_congr_left fun y m => ?_)
    obtain ⟨a, rfl⟩ := hy y m
    rfl
  refine ⟨ys.map f, e, ?_⟩
  have := h.map f
  rwa [List.map_map, show (f ∘ V.ref) = id from rfl, List.map_id] at this
section
variable {P : Program} {w : World} {K : PySem.W.Frag} {mg : Str → Option Value} {base : Heap}
/-- a def with defaults that lets nothing out -/
theorem fd_ok {x qual : Str} {params : Arguments} {body : List Stmt} {scope : Scope} {dvs : List V} {kws : List (Str × V)} {f : Addr} {fd : FuncData} {N ps : List Str} {k : Nat} {sp : Sp} (F : FunD K x qual params body scope dvs kws f fd) (S : FnScope N ps scope) (len : ∀ vs H Q E, sp vs H Q E → vs.length = ps.length)
    (hb : ∀ (cdv : Value) (A : Around) (outer : List Env) (s : Shared) (H : Hp) (vs : List V) (Q : VK) (E : XK), Room k (A.deeper (PyProof.Rows.envOfC qual scope s.heap.objs.size f cdv)) → sp vs H Q E →
      ∃ t, PSs (cxOf CX0 P w K mg base N qual scope f cdv A outer s H E).nox body t ∧ t { nx := fun _ H' => Q .non H', rt := Q } (start N vs) H) : FnOk P w K mg base CX0 (k + 1) f fd ps sp :=
  F.ok S len fun cdv A outer s H vs Q E hr hsp => (hb cdv A outer s H vs Q E hr hsp).imp fun _ h => ⟨h.1.nox, h.2⟩
theorem ok_ginit {f C T0 : Addr} {fd : FuncData} (F : FunD K "__init__" "Graph.__init__" (defArgs sGInit) (defBody sGInit) (defScope sGInit) [.ref T0] [] f fd) (T : GTxt K mg C) (ztuple : mg "tuple" = none) (zsorted : mg "sorted" = none) : FnOk P w K mg base CX0 1 f fd ["self", "size", "arrows"] (spGInit K C) := by
  refine fd_ok F scGInit (fun vs H Q E h => ?_) (fun cdv A outer s H vs Q E hr h => ?_)
  · obtain ⟨g, b, dx, n, ps, ar, rfl, _⟩ := h
    rfl
  · obtain ⟨g, b, dx, n, ps, ar, rfl, hg, hb, hA, hO, hl, hn, k⟩ := h
    have hu := hu_of hr
    have hu65 : (cxOf CX0 P w K mg base ["self", "size", "arrows", "different", "x", "y"] "Graph.__init__" (defScope sGInit) f cdv A outer s H E).nox.A.units + 65 < cLine := by have := hr.un; show (A.deeper _).units + 65 < cLine; omega
    refine ⟨_, pss_cons (ps_fld (pv 0) (pv 1) rfl)
      (pss_cons (ps_set (i := 3) scGInit.nd rfl (.inl rfl) (pe_lst pa_nil))
      (pss_cons (ps_for PassesOwn.never rfl (pi_tup (pv 2)) (pg_tup rfl (pgs_cons (pg_name (i := 4) scGInit.nd rfl (.inl rfl)) (pgs_cons (pg_name (i := 5) scGInit.nd rfl (.inl rfl)) pgs_nil)))
        (pss_cons (ps_if (PW.pt (pw_or (pt_cmpR op_eq (pv 4) (pv 5) (nomark _)) (pw_or (pt_not (pt_chain op_le op_le pe_int (pv 4) (pv 1))) (pw_or1 (pt_not (pt_chain op_le op_le pe_int (pv 5) (pv 1)))))))
          (pss_one ps_never) pss_nil)
        (pss_one (ps_if (pt_cmpR (op_notInD hu65) (pe_tup (pa_cons (pv 4) (pa_cons (pv 5) pa_nil))) (pv 3) (by rfl))
          (pss_one (ps_expr (pe_bm PySem.F.plainAttrs_list PySem.F.slot_list_append PySem.F.type_list_append mt_append (pv 3) (pa_cons (pe_tup (pa_cons (pv 4) (pa_cons (pv 5) pa_nil))) pa_nil)))) pss_nil))))
      (pss_one (ps_fld (pv 0) (pe_callTy call_tuple_of (by rfl) ztuple b_tuple (pa_cons (pe_callB cr_sortedP (by rfl) zsorted b_sorted (pa_cons (pv 3) pa_nil)) pa_nil)) rfl)))), ?_⟩
    refine ⟨_, rfl, _, rfl, g, C, dx, [], rfl, hg, T.cl, T.nS, (by show 0 < 1000; decide), ?_⟩
    refine ⟨Nat.zero_le _, fun pd hpd => ?_⟩
    have hgd : g ≠ pd := by
      rintro rfl
      rw [upd_same] at hpd
      cases hpd
    have hpd0 : H pd = none := none_upd hpd
    have keep : ∀ H', (∀ c o, c ≠ g → H c = some o → H' c = some o) → SqT K H' b (ps.map V.ref) ∧ Arrs H' ps ar := fun H' hk => by
      have nt : ∀ c xs, H c = some (.tup xs) → c ≠ g := fun c xs e z => by rw [z, hg] at e; cases e
      refine ⟨?_, hA.same fun c xs e => hk c _ (nt c xs e) e⟩
      rcases hb with (hb | ⟨o, hb⟩) | hb
      · exact .inl (.inl (hk _ _ (nt _ _ hb) hb))
      · exact .inl (.inr ⟨o, hk _ _ (fun z => by rw [z, hg] at hb; cases hb) hb⟩)
      · exact .inr hb
    obtain ⟨hb0, hA0⟩ := keep _ (fun c o hc e => show L2.upd (L2.upd H g (.ins C dx (putF "size" (.int (n : Int)) []))) pd (.lst []) c = some o from upd_keep hpd (by rw [upd_ne hc]; exact e))
    refine ⟨_, rfl, b, rfl, ⟨_, hb0⟩, for_tup (K := K) (a := b) (xs := ps.map V.ref) (fun i σ H' => ∃ (br : Arr) (qs : List Addr) (x4 x5 : Option V), σ = [some (.ref g), some (.int n), some (.ref b), some (.ref pd), x4, x5] ∧ SameBut g H H' ∧ H' g = some (.ins C dx (putF "size" (.int (n : Int)) [])) ∧
      H' pd = some (.lst (qs.map V.ref)) ∧ Arrs H' qs br ∧ (∀ a, a ∈ br ↔ a ∈ ar.take i) ∧ br.length ≤ i) ⟨[], [], none, none, rfl, fun c o hc e => upd_keep hpd (by rw [upd_ne hc]; exact e), by rw [upd_ne hgd]; exact upd_same, upd_same, .nil, (fun a => by simp), Nat.le_refl _⟩ (fun i σ H' _ ⟨_, _, _, _, _, sb, _⟩ => (keep H' sb).1) ?_ ?_⟩
    · rintro i v σ H1 hi ⟨br, qs, x4, x5, rfl, sb, h1, h2, hB, hm, hbl⟩
      obtain ⟨t, ht, rfl⟩ : ∃ t, ps[i]? = some t ∧ v = .ref t := by
        rw [List.getElem?_map] at hi
        cases e : ps[i]? with
        | none => rw [e] at hi; cases hi
        | some u => rw [e] at hi; exact ⟨u, rfl, (Option.some.inj hi).symm⟩
      obtain ⟨⟨x, y⟩, ha, hxy⟩ := (keep H1 sb).2.at ht
      obtain ⟨ne, bx, bY⟩ := hO _ (List.mem_of_getElem? ha)
      have ne : x ≠ y := ne
      have bx : 1 ≤ x ∧ x ≤ n := bx
      have bY : 1 ≤ y ∧ y ≤ n := bY
      have lps : ps.length = ar.length := hA.length
      have hi11 : i < ps.length := (List.getElem?_eq_some_iff.mp ht).1
      refine ⟨t, _, rfl, SqT.of hxy, rfl, _, _, rfl, _, _, rfl, rfl, ?_⟩
      refine ⟨_, rfl, _, rfl, rfl, _, rfl, ite2 (fun c => absurd (of_decide_eq_true c) (fun e => ne (V.int.inj e))) (fun _ => ?_)⟩
      refine ⟨_, rfl, _, _, rfl, rfl, _, rfl, ite2 (fun _ => ?_) (fun c => absurd (by simpa using bx.1) c)⟩
      refine ⟨_, rfl, _, _, rfl, rfl, _, rfl, ?_⟩
      rw [decide_eq_true bx.2]
      refine iteF ⟨_, rfl, _, _, rfl, rfl, _, rfl, ite2 (fun _ => ?_) (fun c => absurd (by simpa using bY.1) c)⟩
      refine ⟨_, rfl, _, _, rfl, rfl, _, rfl, ?_⟩
      rw [decide_eq_true bY.2]
      show if false = true then _ else _
      refine iteF ?_
      -- (x, y) not in different
      refine ⟨_, rfl, _, rfl, (show 2 ≤ sizeLine by decide), fun q hq => ⟨_, rfl, prD (x, y), br.map prD, Dp.pr (SqT.of upd_same), .lst (SqL.of (upd_keep hq h2)) (Dp.prs (l := pd) (hB.same fun _ _ e => upd_keep hq e)), prD_shaped _, prDs_shaped _, _, rfl, ?_⟩⟩
      rw [any_pr]
      have take1 : ∀ a, a ∈ ar.take (i + 1) ↔ a ∈ ar.take i ∨ a = (x, y) := fun a => by
        rw [List.take_add_one, ha]
        simp
      refine ite2 (fun c => ?_) (fun c => ?_)
      · have hq2 : L2.upd H1 q (.tup [.int x, .int y]) pd = some (.lst (qs.map V.ref)) := upd_keep hq h2
        refine ⟨_, rfl, .inl ⟨rfl, _, SqL.of hq2⟩, _, rfl, _, rfl, (show 2 ≤ sizeLine by decide), fun r hr => ?_⟩
        have lqs : qs.length = br.length := hB.length
        refine ⟨pd, _, .ref r, rfl, rfl, upd_keep hr hq2, by rw [List.length_map]; exact small1000 (by omega), ?_⟩
        have npr : r ≠ pd := fun e => by rw [e, hq2] at hr; cases hr
        have npg : g ≠ pd := hgd
        refine ⟨br ++ [(x, y)], qs ++ [r], _, _, rfl, ?_, ?_, ?_, ?_, ?_, ?_⟩
        · exact fun c o hc e => by
            rw [upd_ne (ne_of_none e hpd0)]
            exact upd_keep hr (upd_keep hq (sb c o hc e))
        · rw [upd_ne npg]; exact upd_keep hr (upd_keep hq h1)
        · rw [upd_same, List.map_append]; rfl
        · have A1 : Arrs (L2.upd (L2.upd (L2.upd H1 q (.tup [.int x, .int y])) r (.tup [.int x, .int y])) pd (.lst (qs.map V.ref ++ [.ref r]))) qs br := hB.same fun z xs e => by
            have : z ≠ pd := fun z' => by rw [z', h2] at e; cases e
            rw [upd_ne this]; exact upd_keep hr (upd_keep hq e)
          exact Paired.snoc A1 (by rw [upd_ne npr]; exact upd_same)
        · intro a
          rw [take1, List.mem_append, List.mem_singleton, hm]
        · rw [List.length_append, List.length_singleton]; omega
      · have hin : (x, y) ∈ br := by
          simp only [Bool.not_eq_true', decide_eq_false_iff_not, Classical.not_not] at c
          exact c
        refine ⟨br, qs, _, _, rfl, fun c o hc e => upd_keep hq (sb c o hc e), upd_keep hq h1, upd_keep hq h2, hB.same fun _ _ e => upd_keep hq e, fun a => ?_, by omega⟩
        rw [take1, ← hm]
        constructor
        · exact .inl
        · rintro (z | rfl)
          · exact z
          · exact hin
    · rintro σ H1 ⟨br, qs, x4, x5, rfl, sb, h1, h2, hB, hm, hbl⟩
      have lps : ps.length = ar.length := hA.length
      rw [List.length_map, lps] at hbl hm
      refine ⟨_, rfl, pd, _, rfl, SqL.of h2, fun v hv => ?_, fun ys p pm hp => ?_⟩
      · obtain ⟨q, hq, rfl⟩ := List.mem_map.mp hv
        obtain ⟨j, hj⟩ := List.getElem?_of_mem hq
        obtain ⟨a, _, e⟩ := hB.at hj
        exact ⟨q, a.1, a.2, rfl, e⟩
      · obtain ⟨zs, rfl, pz⟩ := perm_refs pm
        obtain ⟨cr, pc, hC⟩ := hB.perm pz
        have h3 : L2.upd H1 p (.lst (zs.map V.ref)) p = some (.lst (zs.map V.ref)) := upd_same
        refine ⟨p, _, rfl, .inl ⟨SqL.of h3, fun l hl => ?_⟩⟩
        refine ⟨_, rfl, g, C, dx, _, rfl, by walk_at "hs", T.cl, T.nA, (by show 1 < 1000; decide), ?_⟩
        have hlg : g ≠ l := fun e => by
          have := upd_keep (o := .lst (zs.map V.ref)) hp h1
          rw [e, hl] at this
          cases this
        refine k _ cr (fun a => ?_) (by rw [pc.length_eq]; omega) ⟨dx, l, zs, ?_, ?_, ?_⟩ ?_
        · rw [pc.mem_iff, hm, List.take_length]
        · exact upd_same
        · rw [upd_ne hlg.symm]; exact upd_same
        · refine hC.same fun z xs e => ?_
          have : z ≠ g := fun z' => by rw [z', h1] at e; cases e
          rw [upd_ne this]
          exact upd_keep hl (upd_keep hp e)
        · exact fun c o hc e => by
            rw [upd_ne hc]
            exact upd_keep hl (upd_keep hp (sb c o hc e))
end
end K65

namespace K65
open PySem L2
local macro_rules | `(tactic| walk_at "hs") => `(tactic| with_reducible repeat' first | assumption | exact upd_same | refine upd_keep (by assumption) ?_ | refine upd_oth (by first | assumption | exact Ne.symm (by assumption)) ?_ | refine same_ap (by assumption) ?_ | refine but_ap (by assumption) (by assumption) ?_)
local macro_rules | `(tactic| walk_at "hn") => `(tactic| with_reducible first | assumption | exact none_upd (by assumption) | exact none_upd (none_upd (by assumption)) | exact none_upd (none_upd (none_upd (by assumption))) | exact none_upd (none_upd (none_upd (none_upd (by assumption)))) | exact none_upd (none_upd (none_upd (none_upd (none_upd (by assumption))))) | exact none_upd (none_upd (none_upd (none_upd (none_upd (none_upd (by assumption)))))))
local macro_rules | `(tactic| walk_at "hS") => `(tactic| with_reducible repeat' first | exact Same.refl _ | assumption | refine same_upd ?_ ?_)
theorem flat_ints (l : List Int) : (l.map V.int).all flatV = true := by
  rw [List.all_map]; exact List.all_eq_true.mpr fun _ _ => rfl
theorem inV_ints (v : Int) (l : List Int) : inV (.int v) (l.map V.int) = decide (v ∈ l) := by
  unfold inV
  rw [List.any_map]
  by_cases h : v ∈ l
  · rw [decide_eq_true h]
    exact List.any_eq_true.mpr ⟨v, h, by show (v == v) = true; simp⟩
  · rw [decide_eq_false h]
    refine List.any_eq_false.mpr fun x hx q => h ?_
    have q : (x == v) = true := q
    rw [← beq_iff_eq.mp q]
    exact hx
theorem held_snoc (ar : Arr) (a : Int × Int) (p : List Int) : held (ar ++ [a]) p = held ar p ++ (if a.1 ∈ p then [] else [a.2]) := by
  unfold held
  rw [List.filter_append, List.map_append]
  by_cases h : a.1 ∈ p <;> simp [h]
/-- a list or a tuple of numbers -/
def Nums (K : PySem.W.Frag) (H : Hp) (a : Addr) (p : List Int) : Prop := SqL K H a (p.map V.int) ∨ SqT K H a (p.map V.int)
theorem sqt_same {K : PySem.W.Frag} {H H' : Hp} {a : Addr} {xs : List V} (e : Same H H') (h : SqT K H a xs) : SqT K H' a xs := Evl.ex_t e h
theorem nums_same {K : PySem.W.Frag} {H H' : Hp} {a : Addr} {p : List Int} (s : Same H H') (h : Nums K H a p) : Nums K H' a p := h.imp (fun h => s.seq h) fun h => sqt_same s h
theorem given_nodes (n : Nat) (f : Nat → Bool) (q : Int → Bool) (h : ∀ i, i < n → f i = q (1 + (i : Int))) : Evl.given n f (fun i => V.int (1 + (i : Int))) = ((nodes n).filter q).map V.int := by
  unfold Evl.given nodes
  rw [List.filter_map, List.map_map]
  congr 1
  refine List.filter_congr fun i hi => ?_
  exact h i (List.mem_range.mp hi)
def spFree (K : PySem.W.Frag) (C : Addr) : Sp := fun vs H Q _ => ∃ (g pl : Addr) (n : Nat) (ar : Arr) (p : List Int), vs = [.ref g, .ref pl] ∧ GraphAt C H g n ar ∧ Nums K H pl p ∧ n ≤ 8 ∧ ar.length ≤ 11 ∧
  ∀ (H' : Hp) (q : Addr), Same H H' → H q = none → H' q = some (.lst ((free n ar p).map V.int)) → Q (.ref q) H'
def spLFree (K : PySem.W.Frag) : Sp := fun vs H Q _ => ∃ (al pl : Addr) (n : Nat) (ps : List Addr) (ar : Arr) (p : List Int), vs = [.int (n : Int), .ref al, .ref pl] ∧ SqL K H al (ps.map V.ref) ∧ Arrs H ps ar ∧ Nums K H pl p ∧ n ≤ 8 ∧ ar.length ≤ 11 ∧
  ∀ (H' : Hp) (q : Addr), Same H H' → H q = none → H' q = some (.lst ((free n ar p).map V.int)) → Q (.ref q) H'
section
variable {P : Program} {w : World} {K : PySem.W.Frag} {mg : Str → Option Value} {base : Heap}
theorem ok_free {f C : Addr} {fd : FuncData} (F : Fun K "free_nodes" "free_nodes" sFree f fd) (T : GTxt K mg C) (zrange : mg "range" = none) : FnOk P w K mg base CX0 1 f fd ["graph", "placed"] (spFree K C) := by
  refine F.ok scFree (fun vs H Q E h => ?_) (fun cdv A outer s H vs Q E hr h => ?_)
  · obtain ⟨g, pl, n, ar, p, rfl, _⟩ := h
    rfl
  · obtain ⟨g, pl, n, ar, p, rfl, hg, hp, hn, hl, k⟩ := h
    have hu := hu_of hr
    refine ⟨_, pss_cons (ps_set (i := 2) scFree.nd rfl (.inr rfl) (pe_dc (own := [("x", 3), ("y", 4)]) (g := gTup K 2 (gCons (gName 3) (gCons (gName 4) gNil))) (tt := tTest (tOp (rIn K true) (tVar 3) (tVar 1))) (by rfl) scFree.nd (pi_tup (pe_fld (pv 0) rfl)) (blkOk_by (N := ["graph", "placed", "held", "x", "y", "node"]) (sc := defScope sFree) (by decide +kernel))
        (fun _ _ _ _ _ => pg_tup rfl (pgs_cons (pg_name (i := 3) scFree.nd rfl (Or.inl rfl)) (pgs_cons (pg_name (i := 4) scFree.nd rfl (Or.inl rfl)) pgs_nil)))
        (fun _ _ _ _ _ => pts_one (pt_cmpR op_notIn_seq (pv 3) (pv 1) (by rfl))) (fun _ _ _ _ _ => pv 4) (fun _ _ _ _ _ => pe_bl)))
      (pss_one (ps_ret (pe_lc (own := [("node", 5)]) (g := gName 5) (tt := tAnd (tTest (tOp (rIn K true) (tVar 5) (tVar 1))) (tB (tDNotIn (tVar 5) (tVar 2)))) (by rfl) scFree.nd (pi_range2 (by rfl) zrange (pa_cons pe_int (pa_cons (pe_op op_add (pe_fld (pv 0) rfl) pe_int) pa_nil)))
        (blkOk_by (N := ["graph", "placed", "held", "x", "y", "node"]) (sc := defScope sFree) (by decide +kernel)) (fun _ _ _ _ _ => pg_name (i := 5) scFree.nd rfl (Or.inl rfl))
        (fun _ _ _ _ _ => pts_one (PW.pt (pw_and (pt_cmpR op_notIn_seq (pv 5) (pv 1) (by rfl)) (pw_and1 (pt_cmp (pc_dnotin hu (pv 5) (pv 2)) (by rfl)))))) (fun _ _ _ _ _ => pv 5)))), ?_⟩
    obtain ⟨dx, t, ps, h1, h2, hA⟩ := id hg
    have lps : ps.length = ar.length := hA.length
    refine ⟨_, rfl, g, C, dx, _, _, rfl, h1, T.cl, T.nA, gfs_arrows _ _, t, rfl, ⟨_, SqT.of h2⟩, fun D hD => ?_⟩
    refine dc_tup (K := K) (a := t) (xs := ps.map V.ref) (fun i H' => Same H H' ∧ ∃ kvs : List (Key × V), H' D = some (.dK kvs) ∧ kvs.length ≤ i ∧ ∀ y : Int, (valV kvs (Sum.inl y)).isSome = decide (y ∈ held (ar.take i) p)) ⟨same_new hD, [], upd_same, Nat.le_refl _, fun y => by simp [held, valV]⟩ (fun i H' _ ⟨sm, _⟩ => SqT.of (sm _ _ h2)) ?_ ?_
    · rintro i v H' hi ⟨sm, kvs, hk, hkl, hkv⟩
      obtain ⟨c, hc, rfl⟩ : ∃ t, ps[i]? = some t ∧ v = .ref t := by
        rw [List.getElem?_map] at hi
        cases e : ps[i]? with
        | none => rw [e] at hi; cases hi
        | some u => rw [e] at hi; exact ⟨u, rfl, (Option.some.inj hi).symm⟩
      obtain ⟨⟨x, y⟩, ha, hxy⟩ := hA.at hc
      have hlt : i < ar.length := (List.getElem?_eq_some_iff.mp ha).1
      have et : held (ar.take (i + 1)) p = held (ar.take i) p ++ (if x ∈ p then [] else [y]) := by
        rw [List.take_add_one, ha]
        exact held_snoc _ (x, y) p
      refine ⟨c, _, rfl, SqT.of (sm _ _ hxy), rfl, _, _, rfl, _, _, rfl, rfl, rfl, ?_⟩
      refine ⟨_, rfl, _, rfl, pl, _, rfl, nums_same sm hp, rfl, flat_ints _, _, rfl, ?_⟩
      show if (!inV (.int x) (p.map V.int)) = true then _ else _
      rw [inV_ints]
      refine ite2 (fun q => ?_) (fun q => ?_)
      · have hx : x ∉ p := by simpa using q
        refine ⟨_, rfl, kvs, Sum.inl y, rfl, hk, small1000 (by omega), fun b o e => ?_, putK kvs (Sum.inl y) (.bl true), upd_same, ?_, fun z => ?_⟩
        · rw [upd_ne (ne_of_none e hD)]; exact sm _ _ e
        · have := length_putK kvs (Sum.inl y) (.bl true); omega
        · rw [valV_put, et, if_neg hx]
          by_cases e : z = y
          · subst e; simp
          · rw [if_neg (fun q => e (Sum.inl.inj q)), hkv]
            simp [e]
      · have hx : x ∈ p := by simpa using q
        refine ⟨sm, kvs, hk, by omega, fun z => ?_⟩
        rw [et, if_pos hx, List.append_nil]
        exact hkv z
    · rintro H' ⟨sm, kvs, hk, hkl, hkv⟩
      have hkv : ∀ y : Int, (valV kvs (Sum.inl y)).isSome = decide (y ∈ held ar p) := fun y => by
        rw [hkv, List.length_map, lps, List.take_length]
      refine ⟨_, rfl, g, C, dx, _, _, rfl, sm _ _ h1, T.cl, T.nS, gfs_size _ _, _, _, rfl, rfl, _, _, rfl, ⟨by decide, by decide, by omega, by omega⟩, fun L hL => ?_⟩
      let q : Int → Bool := fun v => !decide (v ∈ p) && !decide (v ∈ held ar p)
      refine lc_range (lo := 1) (n := ((n : Int) + 1 - 1).toNat) (Evl.Cw H' (fun i => q (1 + (i : Int))) (fun i => V.int (1 + (i : Int))) L) ⟨hL, Evl.Ex.new hL, upd_same⟩ (fun i H2 hi pc => ⟨rfl, Evl.cw_turn pc (by omega) ?_ (fun _ => Evl.ev_var rfl)⟩) (fun H2 pc => ?_)
      · intro H3 ex Q' kq
        refine ⟨_, rfl, _, rfl, pl, _, rfl, nums_same (fun _ _ e => ex _ _ (sm _ _ e)) hp, rfl, flat_ints _, _, rfl, ?_⟩
        show if (!inV (.int (1 + (i : Int))) (p.map V.int)) = true then _ else _
        rw [inV_ints]
        have kq : Q' (q (1 + (i : Int))) H3 := kq H3 (fun _ _ e => e)
        refine ite2 (fun z => ⟨_, rfl, _, rfl, D, _, rfl, DGet.k (k := Sum.inl (1 + (i : Int))) (ex _ _ hk), _, rfl, ?_⟩) (fun z => ?_)
        · rw [hkv]
          have : q (1 + (i : Int)) = !decide ((1 + (i : Int)) ∈ held ar p) := by show (_ && _) = _; rw [z, Bool.true_and]
          rwa [this] at kq
        · have z : (!decide ((1 + (i : Int)) ∈ p)) = false := by simpa using z
          have : q (1 + (i : Int)) = false := by show (_ && _) = _; rw [z, Bool.false_and]
          rwa [this] at kq
      · obtain ⟨p1, p2, p3⟩ := pc
        rw [show ((n : Int) + 1 - 1).toNat = n by omega, given_nodes n _ q (fun _ _ => rfl)] at p3
        exact k _ L (fun _ _ e => p2 _ _ (sm _ _ e)) (by rcases hq : H L with _ | o; rfl; rw [sm _ _ hq] at p1; cases p1) p3
/-- the law's own: the arrows a list of pairs -/
theorem ok_lfree {f : Addr} {fd : FuncData} (F : Fun K "_law_free" "_law_free" sLFree f fd) (zrange : mg "range" = none) : FnOk P w K mg base CX0 1 f fd ["_law_size", "_law_arrows_here", "_law_placed"] (spLFree K) := by
  refine F.ok scLFree (fun vs H Q E h => ?_) (fun cdv A outer s H vs Q E hr h => ?_)
  · obtain ⟨al, pl, n, ps, ar, p, rfl, _⟩ := h
    rfl
  · obtain ⟨al, pl, n, ps, ar, p, rfl, ha, hA, hp, hn, hl, k⟩ := h
    refine ⟨_, pss_cons (ps_set (i := 3) scLFree.nd rfl (.inr rfl) (pe_lc (own := [("_law_x", 4), ("_law_y", 5)]) (g := gTup K 2 (gCons (gName 4) (gCons (gName 5) gNil))) (tt := tTest (tOp (rIn K true) (tVar 4) (tVar 2))) (by rfl) scLFree.nd (pi_list (pv 1)) (blkOk_by (N := ["_law_size", "_law_arrows_here", "_law_placed", "_law_held", "_law_x", "_law_y", "_law_node"]) (sc := defScope sLFree) (by decide +kernel))
        (fun _ _ _ _ _ => pg_tup rfl (pgs_cons (pg_name (i := 4) scLFree.nd rfl (Or.inl rfl)) (pgs_cons (pg_name (i := 5) scLFree.nd rfl (Or.inl rfl)) pgs_nil)))
        (fun _ _ _ _ _ => pts_one (pt_cmpR op_notIn_seq (pv 4) (pv 2) (by rfl))) (fun _ _ _ _ _ => pv 5)))
      (pss_one (ps_ret (pe_lc (own := [("_law_node", 6)]) (g := gName 6) (tt := tAnd (tTest (tOp (rIn K true) (tVar 6) (tVar 2))) (tTest (tOp (rIn K true) (tVar 6) (tVar 3)))) (by rfl) scLFree.nd (pi_range2 (by rfl) zrange (pa_cons pe_int (pa_cons (pe_op op_add (pv 0) pe_int) pa_nil)))
        (blkOk_by (N := ["_law_size", "_law_arrows_here", "_law_placed", "_law_held", "_law_x", "_law_y", "_law_node"]) (sc := defScope sLFree) (by decide +kernel)) (fun _ _ _ _ _ => pg_name (i := 6) scLFree.nd rfl (Or.inl rfl))
        (fun _ _ _ _ _ => pts_one (PW.pt (pw_and (pt_cmpR op_notIn_seq (pv 6) (pv 2) (by rfl)) (pw_and1 (pt_cmpR op_notIn_seq (pv 6) (pv 3) (by rfl)))))) (fun _ _ _ _ _ => pv 6)))), ?_⟩
    have lps : ps.length = ar.length := hA.length
    refine ⟨_, rfl, al, rfl, ⟨_, ha⟩, fun D hD => ?_⟩
    refine lc_list (K := K) (a := al) (xs := ps.map V.ref) (fun i H' => Same H H' ∧ H' D = some (.lst ((held (ar.take i) p).map V.int))) ⟨same_new hD, upd_same⟩ (fun i H' _ ⟨sm, _⟩ => sm.seq ha) ?_ ?_
    · rintro i v H' hi ⟨sm, hk⟩
      obtain ⟨c, hc, rfl⟩ : ∃ t, ps[i]? = some t ∧ v = .ref t := by
        rw [List.getElem?_map] at hi
        cases e : ps[i]? with
        | none => rw [e] at hi; cases hi
        | some u => rw [e] at hi; exact ⟨u, rfl, (Option.some.inj hi).symm⟩
      obtain ⟨⟨x, y⟩, ha, hxy⟩ := hA.at hc
      have hlt : i < ar.length := (List.getElem?_eq_some_iff.mp ha).1
      have et : held (ar.take (i + 1)) p = held (ar.take i) p ++ (if x ∈ p then [] else [y]) := by
        rw [List.take_add_one, ha]
        exact held_snoc _ (x, y) p
      have hlen : (held (ar.take i) p).length ≤ 11 := by
        unfold held
        rw [List.length_map]
        have := List.length_filter_le (fun a : Int × Int => !decide (a.1 ∈ p)) (ar.take i)
        rw [List.length_take] at this
        omega
      refine ⟨c, _, rfl, SqT.of (sm _ _ hxy), rfl, _, _, rfl, _, _, rfl, rfl, rfl, ?_⟩
      refine ⟨_, rfl, _, rfl, pl, _, rfl, nums_same sm hp, rfl, flat_ints _, _, rfl, ?_⟩
      show if (!inV (.int x) (p.map V.int)) = true then _ else _
      rw [inV_ints]
      refine ite2 (fun q => ?_) (fun q => ?_)
      · have hx : x ∉ p := by simpa using q
        refine ⟨_, rfl, _, hk, by rw [List.length_map]; exact small1000 (by omega), fun b o e => ?_, ?_⟩
        · rw [upd_ne (ne_of_none e hD)]; exact sm _ _ e
        · rw [upd_same, et, if_neg hx, List.map_append]; rfl
      · have hx : x ∈ p := by simpa using q
        refine ⟨sm, ?_⟩
        rw [et, if_pos hx, List.append_nil]
        exact hk
    · rintro H' ⟨sm, hk⟩
      rw [List.length_map, lps, List.take_length] at hk
      refine ⟨_, rfl, _, _, rfl, rfl, _, _, rfl, ⟨by decide, by decide, by omega, by omega⟩, fun L hL => ?_⟩
      let q : Int → Bool := fun v => !decide (v ∈ p) && !decide (v ∈ held ar p)
      refine lc_range (lo := 1) (n := ((n : Int) + 1 - 1).toNat) (Evl.Cw H' (fun i => q (1 + (i : Int))) (fun i => V.int (1 + (i : Int))) L) ⟨hL, Evl.Ex.new hL, upd_same⟩ (fun i H2 hi pc => ⟨rfl, Evl.cw_turn pc (by omega) ?_ (fun _ => Evl.ev_var rfl)⟩) (fun H2 pc => ?_)
      · intro H3 ex Q' kq
        refine ⟨_, rfl, _, rfl, pl, _, rfl, nums_same (fun _ _ e => ex _ _ (sm _ _ e)) hp, rfl, flat_ints _, _, rfl, ?_⟩
        show if (!inV (.int (1 + (i : Int))) (p.map V.int)) = true then _ else _
        rw [inV_ints]
        have kq : Q' (q (1 + (i : Int))) H3 := kq H3 (fun _ _ e => e)
        refine ite2 (fun z => ⟨_, rfl, _, rfl, D, _, rfl, .inl (SqL.of (ex _ _ hk)), rfl, flat_ints _, _, rfl, ?_⟩) (fun z => ?_)
        · show Q' (!inV (.int (1 + (i : Int))) ((held ar p).map V.int)) H3
          rw [inV_ints]
          have : q (1 + (i : Int)) = !decide ((1 + (i : Int)) ∈ held ar p) := by show (_ && _) = _; rw [z, Bool.true_and]
          rwa [this] at kq
        · have z : (!decide ((1 + (i : Int)) ∈ p)) = false := by simpa using z
          have : q (1 + (i : Int)) = false := by show (_ && _) = _; rw [z, Bool.false_and]
          rwa [this] at kq
      · obtain ⟨p1, p2, p3⟩ := pc
        rw [show ((n : Int) + 1 - 1).toNat = n by omega, given_nodes n _ q (fun _ _ => rfl)] at p3
        exact k _ L (fun _ _ e => p2 _ _ (sm _ _ e)) (by rcases hq : H L with _ | o; rfl; rw [sm _ _ hq] at p1; cases p1) p3
end
end K65

namespace K65
open PySem L2
local macro_rules | `(tactic| walk_at "hs") => `(tactic| with_reducible repeat' first | assumption | exact upd_same | refine upd_keep (by assumption) ?_ | refine upd_oth (by first | assumption | exact Ne.symm (by assumption)) ?_ | refine same_ap (by assumption) ?_ | refine but_ap (by assumption) (by assumption) ?_)
local macro_rules | `(tactic| walk_at "hn") => `(tactic| with_reducible first | assumption | exact none_upd (by assumption) | exact none_upd (none_upd (by assumption)) | exact none_upd (none_upd (none_upd (by assumption))) | exact none_upd (none_upd (none_upd (none_upd (by assumption)))) | exact none_upd (none_upd (none_upd (none_upd (none_upd (by assumption))))) | exact none_upd (none_upd (none_upd (none_upd (none_upd (none_upd (by assumption)))))))
local macro_rules | `(tactic| walk_at "hS") => `(tactic| with_reducible repeat' first | exact Same.refl _ | assumption | refine same_upd ?_ ?_)
/-- handed back: None, or a new list -/
def RetO (r : Option (List Int)) (H : Hp) (Q : VK) : Prop := match r with
  | none => ∀ H', Same H H' → Q .non H'
  | some L => ∀ (H' : Hp) (q : Addr), Same H H' → H q = none → H' q = some (.lst (L.map V.int)) → Q (.ref q) H'
theorem RetO.same {r : Option (List Int)} {H H1 : Hp} {Q : VK} (k : RetO r H Q) (s : Same H H1) : RetO r H1 Q := by
  cases r with
  | none => exact fun H' s' => k H' (s.trans s')
  | some L => exact fun H' q s' h0 h1 => k H' q (s.trans s') (s.free h0) h1
/-- an object that H does not know changes -/
theorem same_mut {H H1 : Hp} {p : Addr} {o : HO} (s : Same H H1) (h : H p = none) : Same H (L2.upd H1 p o) := fun b u e => by
  rw [upd_ne (ne_of_none e h)]; exact s _ _ e
def spCompleted (K : PySem.W.Frag) (C : Addr) : Sp := fun vs H Q _ => ∃ (g b : Addr) (n : Nat) (ar : Arr) (p : List Int), vs = [.ref g, .ref b] ∧ GraphAt C H g n ar ∧ H b = some (.lst (p.map V.int)) ∧ n ≤ 8 ∧ ar.length ≤ 11 ∧ p.length ≤ n ∧ RetO (comp n ar (n - p.length) p) H Q
def spFirst (K : PySem.W.Frag) (C : Addr) : Sp := fun vs H Q _ => ∃ (g : Addr) (n : Nat) (ar : Arr), vs = [.ref g] ∧ GraphAt C H g n ar ∧ n ≤ 8 ∧ ar.length ≤ 11 ∧ RetO (comp n ar n []) H Q
def spNext (K : PySem.W.Frag) (C : Addr) : Sp := fun vs H Q _ => ∃ (g o : Addr) (n : Nat) (ar : Arr) (L : List Int), vs = [.ref g, .ref o] ∧ GraphAt C H g n ar ∧ H o = some (.lst (L.map V.int)) ∧ n ≤ 8 ∧ ar.length ≤ 11 ∧ L.length = n ∧ RetO (nextAt n ar L n) H Q
section
variable {P : Program} {w : World} {K : PySem.W.Frag} {mg : Str → Option Value} {base : Heap}
theorem ok_completed {f fF C : Addr} {fd fdF : FuncData} (F : Fun K "completed" "completed" sCompleted f fd) (T : GTxt K mg C) (GF : FnOk P w K mg base CX0 1 fF fdF ["graph", "placed"] (spFree K C)) (bF : Binds K fdF ["graph", "placed"] []) (mF : mg "free_nodes" = some (.ref fF)) (kF : PySem.W.keepIn K (.ref fF) = true)
    (zlist : mg "list" = none) (zlen : mg "len" = none) : FnOk P w K mg base CX0 2 f fd ["graph", "beginning"] (spCompleted K C) := by
  refine F.ok scCompleted (fun vs H Q E h => ?_) (fun cdv A outer s H vs Q E hr h => ?_)
  · obtain ⟨g, b, n, ar, p, rfl, _⟩ := h
    rfl
  · obtain ⟨g, b, n, ar, p, rfl, hg, hb, hn, hl, hp, k⟩ := h
    refine ⟨_, pss_cons (ps_set (i := 2) scCompleted.nd rfl (.inl rfl) (pe_callTy call_list_of (by rfl) zlist b_list (pa_cons (pv 1) pa_nil)))
      (pss_cons (ps_while PassesOwn.never (pt_cmpR op_lt (pe_callB call_len_seq (by rfl) zlen b_len (pa_cons (pv 2) pa_nil)) (pe_fld (pv 0) rfl) (nomark _))
        (pss_cons (ps_set (i := 3) scCompleted.nd rfl (.inl rfl) (pe_call GF hr (by rfl) mF kF bF .nil pass0 (pa_cons (pv 0) (pa_cons (pv 2) pa_nil))))
        (pss_cons (ps_if (pt_not (pt_truth (pv 3) (by intro _; rfl))) (pss_one (ps_ret pe_non)) pss_nil)
        (pss_one (ps_expr (pe_bm PySem.F.plainAttrs_list PySem.F.slot_list_append PySem.F.type_list_append mt_append (pv 2) (pa_cons (pe_ix ix_list (pv 3) pe_int (fun _ _ => rfl)) pa_nil)))))))
      (pss_one (ps_ret (pv 2)))), ?_⟩
    refine ⟨_, rfl, b, _, rfl, .inl (SqL.of hb), fun q hq => ?_⟩
    refine ⟨fun m σ H' => ∃ (p' : List Int) (x : Option V), σ = [some (.ref g), some (.ref b), some (.ref q), x] ∧ Same H H' ∧ H' q = some (.lst (p'.map V.int)) ∧ p'.length + m = n ∧ comp n ar (n - p.length) p = comp n ar m p', ⟨n - p.length, p, none, rfl, same_new hq, upd_same, by omega, rfl⟩, ?_⟩
    rintro m σ H1 ⟨p', x, rfl, sm, h1, hm, ec⟩
    obtain ⟨dx, t, ps, hg1, hg2, hgA⟩ := hg.same sm
    refine ⟨_, rfl, q, _, rfl, .inl (SqL.of h1), _, rfl, g, C, dx, _, _, rfl, hg1, T.cl, T.nS, gfs_size _ _, _, _, rfl, rfl, _, rfl, ite2 (fun c => ?_) (fun c => ?_)⟩
    · have c := of_decide_eq_true c
      rw [List.length_map] at c
      refine ⟨fun σ' H' => ∃ m', m' < m ∧ ∃ (p' : List Int) (x : Option V), σ' = [some (.ref g), some (.ref b), some (.ref q), x] ∧ Same H H' ∧ H' q = some (.lst (p'.map V.int)) ∧ p'.length + m' = n ∧ comp n ar (n - p.length) p = comp n ar m' p', fun _ _ h => h, ?_⟩
      refine ⟨_, rfl, _, rfl, g, q, n, ar, p', rfl, hg.same sm, .inl (SqL.of h1), hn, hl, fun H2 r s2 hr0 h2 => ?_⟩
      refine ⟨_, rfl, _, .inl ⟨_, SqL.of h2, rfl⟩, ?_⟩
      obtain ⟨m, rfl⟩ : ∃ m', m = m' + 1 := ⟨m - 1, by omega⟩
      cases e : free n ar p' with
      | nil =>
        refine iteT ?_
        have : comp n ar (n - p.length) p = none := by rw [ec]; unfold comp; rw [e]
        rw [this] at k
        exact k H2 (sm.trans s2)
      | cons v rest =>
        refine iteF ?_
        rw [e] at h2
        have h1' : H2 q = some (.lst (p'.map V.int)) := s2 _ _ h1
        refine ⟨_, rfl, .inl ⟨rfl, _, SqL.of h1'⟩, _, rfl, r, _, _, _, rfl, rfl, SqL.of h2, at_of (j := 0) rfl rfl, q, _, _, rfl, rfl, h1', by rw [List.length_map]; exact small1000 (by omega), ?_⟩
        refine ⟨m, by omega, p' ++ [v], _, rfl, same_mut (sm.trans s2) hq, ?_, ?_, ?_⟩
        · rw [upd_same, List.map_append]; rfl
        · rw [List.length_append, List.length_singleton]; omega
        · rw [ec]
          conv => lhs; unfold comp
          rw [e]
    · have c : ¬ (((p'.map V.int).length : Int) < (n : Int)) := by simpa using c
      rw [List.length_map] at c
      have : m = 0 := by omega
      subst this
      have : comp n ar (n - p.length) p = some p' := ec
      rw [this] at k
      exact ⟨_, rfl, k H1 q sm hq h1⟩
theorem ok_first {f fF C : Addr} {fd fdF : FuncData} (F : Fun K "first_order" "first_order" sFirst f fd) (GF : FnOk P w K mg base CX0 2 fF fdF ["graph", "beginning"] (spCompleted K C)) (bF : Binds K fdF ["graph", "beginning"] []) (mF : mg "completed" = some (.ref fF)) (kF : PySem.W.keepIn K (.ref fF) = true) :
    FnOk P w K mg base CX0 3 f fd ["graph"] (spFirst K C) := by
  refine F.ok scFirst (fun vs H Q E h => ?_) (fun cdv A outer s H vs Q E hr h => ?_)
  · obtain ⟨g, n, ar, rfl, _⟩ := h
    rfl
  · obtain ⟨g, n, ar, rfl, hg, hn, hl, k⟩ := h
    refine ⟨_, pss_one (ps_ret (pe_call GF hr (by rfl) mF kF bF .nil pass0 (pa_cons (pv 0) (pa_cons (pe_lst pa_nil) pa_nil)))), ?_⟩
    exact ⟨_, rfl, Nat.zero_le _, fun p hp => ⟨g, p, n, ar, [], rfl, hg.same (same_new hp), upd_same, hn, hl, Nat.zero_le _, k.same (same_new hp)⟩⟩
theorem ok_next {f fF fC C : Addr} {fd fdF fdC : FuncData} (F : Fun K "next_order" "next_order" sNext f fd) (T : GTxt K mg C) (GF : FnOk P w K mg base CX0 1 fF fdF ["graph", "placed"] (spFree K C)) (bF : Binds K fdF ["graph", "placed"] []) (mF : mg "free_nodes" = some (.ref fF)) (kF : PySem.W.keepIn K (.ref fF) = true)
    (GC : FnOk P w K mg base CX0 2 fC fdC ["graph", "beginning"] (spCompleted K C)) (bC : Binds K fdC ["graph", "beginning"] []) (mC : mg "completed" = some (.ref fC)) (kC : PySem.W.keepIn K (.ref fC) = true) (zrange : mg "range" = none) : FnOk P w K mg base CX0 3 f fd ["graph", "order"] (spNext K C) := by
  refine F.ok scNext (fun vs H Q E h => ?_) (fun cdv A outer s H vs Q E hr h => ?_)
  · obtain ⟨g, o, n, ar, L, rfl, _⟩ := h
    rfl
  · obtain ⟨g, o, n, ar, L, rfl, hg, ho, hn, hl, hL, k⟩ := h
    have hr1 : Room 1 _ := hr.mono (by decide)
    refine ⟨_, pss_cons (ps_for PassesOwn.never rfl (pi_range3 (by rfl) zrange (pa_cons (pe_op op_sub (pe_fld (pv 0) rfl) pe_int) (pa_cons (pe_un un_neg pe_int) (pa_cons (pe_un un_neg pe_int) pa_nil)))) (pg_name (i := 2) scNext.nd rfl (.inr rfl))
        (pss_cons (ps_setLc (i := 3) (own := [("node", 4)]) (g := gName 4) (tt := tTest (tOp (rI0 fun i j => .bl (decide (j < i))) (tVar 4) (tOp (rIxL K) (tVar 1) (tVar 2)))) (by rfl) scNext.nd rfl rfl (sw_true rfl rfl rfl (by decide +kernel))
            (pi_list (pe_call GF hr1 (by rfl) mF kF bF .nil pass0 (pa_cons (pv 0) (pa_cons (pe_slice sl_list (pv 1) po_none (po_some (pv 2))) pa_nil))))
            (blkOk_by (N := ["graph", "order", "at", "greater", "node"]) (sc := defScope sNext) (by decide +kernel)) (fun _ _ _ _ _ => pg_name (i := 4) scNext.nd rfl (Or.inl rfl))
            (fun _ _ _ _ _ => pts_one (pt_cmpR op_gt (pv 4) (pe_ix ix_list (pv 1) (pv 2) (fun _ _ => rfl)) (nomark _))) (fun _ _ _ _ _ => pv 4))
        (pss_one (ps_if (pt_truth (pv 3) (by intro _; rfl))
          (pss_one (ps_ret (pe_call GC hr (by rfl) mC kC bC .nil pass0 (pa_cons (pv 0) (pa_cons (pe_op op_cat (pe_slice sl_list (pv 1) po_none (po_some (pv 2))) (pe_lst (pa_cons (pe_ix ix_list (pv 3) pe_int (fun _ _ => rfl)) pa_nil))) pa_nil))))) pss_nil))))
      (pss_one (ps_ret pe_non)), ?_⟩
    obtain ⟨dx, t, ps, hg1, hg2, hgA⟩ := id hg
    refine ⟨_, rfl, g, C, dx, _, _, rfl, hg1, T.cl, T.nS, gfs_size _ _, _, _, rfl, rfl, 1, rfl, 1, rfl, _, _, -1, _, rfl, RgC.neg (by omega) (by omega) (by decide) (by decide), ?_⟩
    refine for_rangeC (lo := (n : Int) - 1) (c := -1) (n := ((n : Int) - 1 - -1).toNat) (fun i σ H' => i ≤ n ∧ ∃ (x2 x3 x4 : Option V), σ = [some (.ref g), some (.ref o), x2, x3, x4] ∧ Same H H' ∧ nextAt n ar L n = nextAt n ar L (n - i)) ⟨Nat.zero_le _, none, none, none, rfl, Same.refl _, rfl⟩ ?_ ?_
    · rintro i σ H1 hi ⟨_, x2, x3, x4, rfl, sm, en⟩
      have hi : i < n := by omega
      obtain ⟨j, hj⟩ : ∃ j, n - i = j + 1 := ⟨n - i - 1, by omega⟩
      have ej : (n : Int) - 1 + (i : Nat) * -1 = (j : Int) := by omega
      rw [ej]
      have hjL : j < L.length := by omega
      have hx : (L.map V.int)[j]? = some (.int L[j]) := by rw [List.getElem?_map, List.getElem?_eq_getElem hjL]; rfl
      have eD : L.getD j 0 = L[j] := by rw [List.getD_eq_getElem?_getD, List.getElem?_eq_getElem hjL]; rfl
      have ho1 := sm _ _ ho
      refine ⟨_, rfl, _, rfl, _, rfl, _, rfl, o, _, rfl, SqL.of ho1, fun p hp => ?_⟩
      rw [cut_take (by omega)]
      have s1 : Same H1 (L2.upd H1 p (.lst ((L.take j).map V.int))) := same_new hp
      refine ⟨g, p, n, ar, L.take j, rfl, (hg.same sm).same s1, .inl (SqL.of upd_same), hn, hl, fun H2 r s2 hr2 h2 => ?_⟩
      have s12 : Same H1 H2 := s1.trans s2
      refine ⟨r, rfl, ⟨_, SqL.of h2⟩, fun D hD => ?_⟩
      let F' := free n ar (L.take j)
      let q : Nat → Bool := fun i => decide (L[j] < F'.getD i 0)
      refine lc_list (K := K) (a := r) (xs := F'.map V.int) (Evl.Cw H2 q (fun i => V.int (F'.getD i 0)) D) ⟨hD, Evl.Ex.new hD, upd_same⟩ (fun i H' _ pc => SqL.of (pc.2.1 _ _ h2)) (fun i x H' hi pc => ?_) (fun H' pc => ?_)
      · obtain ⟨hi2, e⟩ := List.getElem?_eq_some_iff.mp hi
        rw [List.getElem_map] at e
        have ex : x = .int (F'.getD i 0) := by
          rw [List.getD_eq_getElem?_getD, List.getElem?_eq_getElem (by simpa using hi2)]
          exact e.symm
        subst ex
        have hi3 : i < 50000 := by
          have h1 : F'.length ≤ n := by
            have := List.length_filter_le (fun v => !decide (v ∈ L.take j) && !decide (v ∈ held ar (L.take j))) (nodes n)
            rwa [length_nodes] at this
          rw [List.length_map] at hi2
          omega
        refine ⟨rfl, Evl.cw_turn pc hi3 ?_ (fun _ => Evl.ev_var rfl)⟩
        intro H3 ex3 Q' kq
        exact ⟨_, rfl, _, rfl, _, rfl, o, _, _, _, rfl, rfl, SqL.of (ex3 _ _ (s12 _ _ ho1)), atI_nat hx, _, _, rfl, rfl, _, rfl, kq H3 (fun _ _ e => e)⟩
      · obtain ⟨pD, p2, p3⟩ := pc
        have eG : Evl.given (F'.map V.int).length q (fun i => V.int (F'.getD i 0)) = (F'.filter fun v => decide (L[j] < v)).map V.int := by
          unfold Evl.given
          rw [List.length_map]
          have eF : F' = (List.range F'.length).map fun i => F'.getD i 0 := by
            refine List.ext_getElem (by simp) fun i h1 h2 => ?_
            rw [List.getElem_map, List.getElem_range, List.getD_eq_getElem?_getD, List.getElem?_eq_getElem h1]; rfl
          conv => rhs; rw [eF, List.filter_map, List.map_map]
          rfl
        rw [eG] at p3
        have s2' : Same H2 H' := p2
        have sA : Same H1 H' := s12.trans s2'
        have estep : nextAt n ar L n = match (free n ar (L.take j)).filter fun v => decide (L.getD j 0 < v) with
            | [] => nextAt n ar L j
            | v :: _ => comp n ar (n - (j + 1)) (L.take j ++ [v]) := by rw [en, hj]; rfl
        rw [eD] at estep
        refine ⟨_, rfl, _, .inl ⟨_, SqL.of p3, rfl⟩, ?_⟩
        cases eF : F'.filter fun v => decide (L[j] < v) with
        | nil =>
          refine iteF ⟨by omega, _, _, _, rfl, sm.trans sA, ?_⟩
          have eF : (free n ar (L.take j)).filter (fun v => decide (L[j] < v)) = [] := eF
          rw [estep, eF, show n - (i + 1) = j by omega]
        | cons v rest =>
          refine iteT ?_
          rw [eF] at p3
          have eF : (free n ar (L.take j)).filter (fun v => decide (L[j] < v)) = v :: rest := eF
          have ek : nextAt n ar L n = comp n ar (n - (j + 1)) (L.take j ++ [v]) := by rw [estep, eF]
          have ho2 := sA _ _ ho1
          refine ⟨_, rfl, _, rfl, _, rfl, _, rfl, o, _, rfl, SqL.of ho2, fun p5 hp5 => ?_⟩
          rw [cut_take (by omega)]
          refine ⟨_, rfl, D, _, _, _, rfl, rfl, SqL.of (by walk_at "hs"), at_of (j := 0) rfl rfl, (show 1 ≤ sizeLine by decide), fun p6 hp6 => ?_⟩
          refine ⟨p5, p6, _, _, rfl, rfl, by walk_at "hs", by walk_at "hs", by rw [List.length_map, List.length_take]; exact Nat.le_trans (show _ ≤ 20 by simp; omega) (by decide), fun p7 hp7 => ?_⟩
          have s57 : Same H' (L2.upd (L2.upd (L2.upd H' p5 (.lst ((L.take j).map V.int))) p6 (.lst [.int v])) p7 (.lst ((L.take j).map V.int ++ [.int v]))) := by walk_at "hS"
          have sAll := (sm.trans sA).trans s57
          refine ⟨g, p7, n, ar, L.take j ++ [v], rfl, hg.same sAll, ?_, hn, hl, ?_, ?_⟩
          · rw [upd_same, List.map_append]; rfl
          · rw [List.length_append, List.length_take, List.length_singleton]; omega
          · rw [List.length_append, List.length_take, List.length_singleton, Nat.min_eq_left (by omega), ← ek]
            exact k.same sAll
    · rintro σ H1 ⟨_, x2, x3, x4, rfl, sm, en⟩
      rw [show ((n : Int) - 1 - -1).toNat = n by omega, Nat.sub_self] at en
      have : nextAt n ar L n = none := en
      rw [this] at k
      exact k H1 sm
end
end K65

/-! min of a list of pairs of ints: the built-in's loop, the comparison told where the pairs stand. -/
namespace K65
open PySem L2
section
variable {pg : Program} {wd : World} {Ar : Around} {R : Result → Shared → Prop} {It S : Addr} {fs ws : List Addr} {m : Nat} {IsAt : Nat → Value → Prop} {Pl : Nat → Heap → Prop} {lt : Nat → Nat → Bool} {Still : Heap → Prop}
/-- what stands apart from the loop's own two objects -/
def Rest (ws : List Addr) (S : Addr) (x y : Heap) : Prop := ∀ b o, b ∉ ws → b ≠ S → x.get? b = some o → y.get? b = some o
theorem Rest.trans {x y z : Heap} (p : Rest ws S x y) (q : Rest ws S y z) : Rest ws S x z := fun b o h1 h2 e => q b o h1 h2 (p b o h1 h2 e)
def box (v : Value) (c : Nat) : Obj := { cls := .type "list", dict := none, data := .seq #[v, v] c, slots := #[] }
theorem off1 {n k : Nat} (h : k = n + 1) : k ≠ n := by omega
theorem off2 {a n k : Nat} (h : k = n + 1) (g : a < n) : a ≠ k := by omega
theorem rest_upd {x : Heap} {g : Obj → Obj} : Rest ws S x (x.update S g) := fun _ _ _ h e => (Heap.get?_update_other _ _ (Ne.symm h)).trans e
theorem min_turns (Wk : Walks pg wd Ar.in1 It fs ws m IsAt Pl) (hS : S ∉ fs) (still : ∀ x y, Still x → Rest ws S x y → Still y)
    (cmp : ∀ i j u v (s : Shared) Q E, Still s.heap → IsAt i u → IsAt j v → Q (.bool (lt i j)) s → wpAny (model pg wd) Ar.in1 (richCompare .Lt u v) Q E s) :
    ∀ (left i b : Nat) (s : Shared) (vb : Value) (c : Nat), i + left = m → 1 ≤ i → b = argBest lt (i - 1) → Still s.heap → Pl i s.heap → IsAt b vb → s.heap.get? S = some (box vb c) →
      (∀ v y tk, IsAt (argBest lt (m - 1)) v → Rest ws S s.heap y → R (.ok (.ret v)) { s with heap := y, toks := tk }) →
      codeAny (model pg wd) Ar (.builtin "min.loop" ⟨[.ref It, .none, .ref S], []⟩) R s := by
  have offW : S ∉ ws := fun z => hS (Wk.sub _ z)
  have nm : (toString "min" ++ toString ".loop" : String) = "min.loop" := by decide
  intro left
  induction left with
  | zero =>
    intro i b s vb c hm h1 hb st pl ib hs fin
    have him : i = m := by omega
    subst him hb
    refine codeAny_builtin F.entry_min_loop ?_
    rw [Around.under_plainId F.plain_min_loop _]
    refine wpAny_bind (m := seqItems? (.ref S)) (wpAny_seqItems hs rfl ?_)
    refine wpAny_bind (wpAny_tryCatch (Wk.done s _ _ pl fun y tk ky => ?_))
    refine wpAny_bind (m := updateSeq S (fun _ => #[])) ?_
    refine wpAny_updateSeq (ky S _ offW hs) rfl (wpAny_bind (wpAny_letGo (wpAny_pure ?_)))
    exact fin vb _ tk ib fun b o n1 n2 e => rest_upd b o n1 n2 (ky b o n1 e)
  | succ left ih =>
    intro i b s vb c hm h1 hb st pl ib hs fin
    refine codeAny_builtin F.entry_min_loop ?_
    rw [Around.under_plainId F.plain_min_loop _]
    refine wpAny_bind (m := seqItems? (.ref S)) (wpAny_seqItems hs rfl ?_)
    refine wpAny_bind (wpAny_tryCatch (Wk.item i s _ _ (by omega) pl fun v y tk iv pl' ky => ?_))
    have hsy := ky S _ offW hs
    have rest1 : Rest ws S s.heap y := fun b o n1 _ e => ky b o n1 e
    have sty := still _ _ st rest1
    have step : argBest lt i = if lt i b = true then i else b := by
      obtain ⟨j, rfl⟩ : ∃ j, i = j + 1 := ⟨i - 1, by omega⟩
      rw [hb]
      rfl
    refine wpAny_bind (m := tryCatch _ _) (wpAny_tryCatch (wpAny_holding (wpAny_bind (cmp i b v vb { s with heap := y, toks := tk } _ _ sty iv ib ?_))))
    refine wpAny_bind (wpAny_holding (wpAny_truthy_bool ?_))
    refine wpAny_bind (wpAny_letGo (wpAny_pure ?_))
    cases hlt : lt i b with
    | true =>
      rw [hlt, if_pos rfl] at step
      simp only [if_true]
      refine wpAny_bind (wpAny_updateSeq hsy rfl (wpAny_bind (wpAny_letGo ?_)))
      rw [nm]
      have ru : Rest ws S y (y.update S (Obj.mapSeq fun _ => #[v, v])) := rest_upd
      refine wpAny_pure ⟨plainId_quiet F.plain_min_loop _, ih (i + 1) i _ v _ (by omega) (by omega) step.symm (still _ _ sty ru) (Wk.frame _ _ _ pl' fun b hbf o e => ?_) iv (Heap.get?_update_self _ hsy rfl) fun v' z tk' iv' rz => ?_⟩
      · exact (Heap.get?_update_other _ _ (by rintro rfl; exact hS hbf)).trans e
      · exact fin v' z tk' iv' ((rest1.trans ru).trans rz)
    | false =>
      rw [hlt, if_neg Bool.false_ne_true] at step
      simp only [Bool.false_eq_true, if_false]
      refine wpAny_bind (wpAny_letGo ?_)
      rw [nm]
      exact wpAny_pure ⟨plainId_quiet F.plain_min_loop _, ih (i + 1) b _ vb c (by omega) (by omega) step.symm sty pl' ib hsy fun v' z tk' iv' rz => fin v' z tk' iv' (rest1.trans rz)⟩
theorem min_begins (Wk : Walks pg wd Ar.in1 It fs ws m IsAt Pl) (hS : S ∉ fs) (still : ∀ x y, Still x → Rest ws S x y → Still y) (hm : 0 < m)
    (cmp : ∀ i j u v (s : Shared) Q E, Still s.heap → IsAt i u → IsAt j v → Q (.bool (lt i j)) s → wpAny (model pg wd) Ar.in1 (richCompare .Lt u v) Q E s)
    {s : Shared} {c : Nat} (st : Still s.heap) (pl : Pl 0 s.heap) (hs : s.heap.get? S = some { cls := .type "list", dict := none, data := .seq #[] c, slots := #[] })
    (fin : ∀ v y tk, IsAt (argBest lt (m - 1)) v → Rest ws S s.heap y → R (.ok (.ret v)) { s with heap := y, toks := tk }) :
    codeAny (model pg wd) Ar (.builtin "min.loop" ⟨[.ref It, .none, .ref S], []⟩) R s := by
  have offW : S ∉ ws := fun z => hS (Wk.sub _ z)
  have nm : (toString "min" ++ toString ".loop" : String) = "min.loop" := by decide
  refine codeAny_builtin F.entry_min_loop ?_
  rw [Around.under_plainId F.plain_min_loop _]
  refine wpAny_bind (m := seqItems? (.ref S)) (wpAny_seqItems hs rfl ?_)
  refine wpAny_bind (wpAny_tryCatch (Wk.item 0 s _ _ hm pl fun v y tk iv pl' ky => ?_))
  have hsy := ky S _ offW hs
  have rest1 : Rest ws S s.heap y := fun b o n1 _ e => ky b o n1 e
  refine wpAny_bind (m := updateSeq S (fun _ => #[v, v])) ?_
  refine wpAny_updateSeq hsy rfl ?_
  rw [nm]
  have ru : Rest ws S y (y.update S (Obj.mapSeq fun _ => #[v, v])) := rest_upd
  refine wpAny_pure ⟨plainId_quiet F.plain_min_loop _, min_turns Wk hS still cmp (m - 1) 1 0 _ v _ (by omega) (Nat.le_refl _) rfl (still _ _ st (rest1.trans ru)) (Wk.frame _ _ _ pl' fun b hbf o e => ?_) iv (Heap.get?_update_self _ hsy rfl) fun v' z tk' iv' rz => ?_⟩
  · exact (Heap.get?_update_other _ _ (by rintro rfl; exact hS hbf)).trans e
  · exact fin v' z tk' iv' ((rest1.trans ru).trans rz)
theorem best_first {key : Nat → Int} {lt : Nat → Nat → Bool} (h1 : ∀ i j, lt i j = true → key i ≤ key j) (h2 : ∀ i j, lt i j = false → key j ≤ key i) : ∀ k, argBest lt k ≤ k ∧ ∀ j, j ≤ k → key (argBest lt k) ≤ key j
  | 0 => ⟨Nat.le_refl _, fun j hj => by rw [show j = 0 by omega]; exact Int.le_refl _⟩
  | k + 1 => by
    obtain ⟨a, b⟩ := best_first h1 h2 k
    have e : argBest lt (k + 1) = if lt (k + 1) (argBest lt k) = true then k + 1 else argBest lt k := rfl
    rw [e]
    by_cases c : lt (k + 1) (argBest lt k) = true
    · rw [if_pos c]
      refine ⟨Nat.le_refl _, fun j hj => ?_⟩
      rcases Nat.lt_or_ge j (k + 1) with q | q
      · exact Int.le_trans (h1 _ _ c) (b j (by omega))
      · rw [show j = k + 1 by omega]; exact Int.le_refl _
    · rw [if_neg c]
      refine ⟨by omega, fun j hj => ?_⟩
      rcases Nat.lt_or_ge j (k + 1) with q | q
      · exact b j (by omega)
      · rw [show j = k + 1 by omega]
        exact h2 _ _ (by simpa using c)
end
/-- min(xs), xs a list of pairs of ints -/
def rMinP (K : PySem.W.Frag) : List V → Hp → VK → Prop := fun vs H Q => ∃ (a : Addr) (ps : List Addr) (ks : Arr), vs = [.ref a] ∧ SqL K H a (ps.map V.ref) ∧ Arrs H ps ks ∧ 0 < ks.length ∧
  ∀ (i : Nat) (p : Addr) (k : Int × Int), ps[i]? = some p → ks[i]? = some k → (∀ z ∈ ks, k.1 ≤ z.1) → Q (.ref p) H
theorem refs_only : ∀ {ps : List Addr} {us : List Value}, Vals (ps.map V.ref) us → us = ps.map Value.ref
  | [], _, .nil => rfl
  | p :: ps, _, .cons r t => by
    cases r
    rw [refs_only t]
    rfl
section
open PySem.Spec PyProof.Rows
variable {X : Cx}
theorem cr_minP (hc : X.calm = true) (hu : X.A.units + 64 < cLine) : CallR X (.builtin "min") (rMinP X.K) := by
  intro pins s σ H vs us Q I r h
  obtain ⟨a, ps, ks, rfl, hs, hA, hpos, q⟩ := h
  obtain ⟨its, rv, hl, _⟩ := I.list hs
  rw [Vals.ref1 r]
  have ei : its = ps.map Value.ref := refs_only rv
  subst ei
  have hh := I.ok.hd hc
  have lps : ps.length = ks.length := hA.length
  let ky : Nat → Int × Int := fun i => ks.getD i (0, 0)
  let lt : Nat → Nat → Bool := fun i j => HT.lexLt [(ky i).1, (ky i).2] [(ky j).1, (ky j).2]
  -- where the pairs stand
  let Still : Heap → Prop := fun x => ∀ (i : Nat) (p : Addr), ps[i]? = some p → p < s.heap.objs.size ∧ ∃ its : List Value, IsTup x p its.toArray ∧ IntsAre its [(ky i).1, (ky i).2]
  have tupKeep : ∀ {x y : Heap} {p : Addr} {z : Array Value}, (∀ o, x.get? p = some o → y.get? p = some o) → IsTup x p z → IsTup y p z := fun k ⟨o, e, c⟩ => ⟨o, k o e, c⟩
  have still0 : Still s.heap := fun i p hp => by
    obtain ⟨k, e1, e2⟩ := hA.at hp
    have ek : ky i = k := by show ks.getD i (0, 0) = k; rw [List.getD_eq_getElem?_getD, e1]; rfl
    obtain ⟨_, it2, r2, tp⟩ := I.hok _ _ e2
    exact ⟨I.hok.lt e2, it2, tp, by rw [ek]; exact (Vals.ints (ns := [k.1, k.2]) r2)⟩
  have cmp : ∀ i j u v (s' : Shared) Q E, Still s'.heap → (ps.map Value.ref).toArray[i]? = some u → (ps.map Value.ref).toArray[j]? = some v → Q (.bool (lt i j)) s' → wpAny (model X.prog X.w) X.A.in1 (richCompare .Lt u v) Q E s' := fun i j u v s' Q E st iu jv hq => by
    have conv : ∀ {i : Nat} {u : Value}, (ps.map Value.ref).toArray[i]? = some u → ∃ p, ps[i]? = some p ∧ u = .ref p := fun {i u} h => by
      rw [List.getElem?_toArray, List.getElem?_map] at h
      cases e : ps[i]? with
      | none => rw [e] at h; cases h
      | some p => rw [e] at h; exact ⟨p, rfl, (Option.some.inj h).symm⟩
    obtain ⟨p, hp, rfl⟩ := conv iu
    obtain ⟨p', hp', rfl⟩ := conv jv
    obtain ⟨_, it1, t1, n1⟩ := st i p hp
    obtain ⟨_, it2, t2, n2⟩ := st j p' hp'
    exact HT.lt_tupInts t1 t2 (by simpa using n1) (by simpa using n2) (by show X.A.units + 1 < cLine; omega) hq
  have pick : ∀ (v : Value), (ps.map Value.ref).toArray[argBest lt (ps.length - 1)]? = some v → ∀ s', Inv X pins σ H s' → EP X pins σ Q v s' := fun v hv s' I' => by
    have b1 : ∀ i j, lt i j = true → (ky i).1 ≤ (ky j).1 := fun i j e => by
      have e : (if (ky i).1 = (ky j).1 then HT.lexLt [(ky i).2] [(ky j).2] else decide ((ky i).1 < (ky j).1)) = true := e
      split at e
      · omega
      · have := of_decide_eq_true e; omega
    have b2 : ∀ i j, lt i j = false → (ky j).1 ≤ (ky i).1 := fun i j e => by
      have e : (if (ky i).1 = (ky j).1 then HT.lexLt [(ky i).2] [(ky j).2] else decide ((ky i).1 < (ky j).1)) = false := e
      split at e
      · omega
      · have := of_decide_eq_false e; omega
    obtain ⟨z1, z2⟩ := best_first (key := fun i => (ky i).1) b1 b2 (ps.length - 1)
    rw [List.getElem?_toArray, List.getElem?_map] at hv
    cases e : ps[argBest lt (ps.length - 1)]? with
    | none => rw [e] at hv; cases hv
    | some p =>
      rw [e] at hv
      cases hv
      have hb : argBest lt (ps.length - 1) < ks.length := by omega
      have ek : ks[argBest lt (ps.length - 1)]? = some (ky (argBest lt (ps.length - 1))) := by
        show _ = some (ks.getD _ (0, 0))
        rw [List.getD_eq_getElem?_getD, List.getElem?_eq_getElem hb]
        rfl
      refine ⟨.ref p, H, I', rfl, q _ p _ e ek fun z hz => ?_⟩
      obtain ⟨j, hj, ej⟩ := List.getElem_of_mem hz
      have := z2 j (by omega)
      have ez : ky j = z := by show ks.getD j (0, 0) = z; rw [List.getD_eq_getElem?_getD, List.getElem?_eq_getElem hj]; exact ej
      rw [ez] at this
      exact this
  have nm : (toString "min" ++ toString ".loop" : String) = "min.loop" := by decide
  refine call_function_tree F.kind_min F.plain_min F.entry_min (F.args_min1 _) ?_
  refine wpAny_bind (m := Builtin.Builtins.bindParams "min" ["key", "default"] 0 ⟨[], []⟩) (wpAny_of_eq rfl ?_)
  refine wpAny_bind (wpAny_pure ?_)
  refine wpAny_bind (iter_any hl.isList fun s2 e2 st hne => ?_)
  subst e2
  refine wpAny_bind (wpAny_newObj_type ?_)
  rw [nm]
  have ha : a < s.heap.objs.size := by obtain ⟨_, e, _⟩ := hl.isList; exact Heap.lt_size e
  let h1 := s.heap.push { cls := .type "list_iterator", data := .fields #[.ref a, .int 0 0] }
  have z1 : h1.objs.size = s.heap.objs.size + 1 := Heap.size_push _ _
  have keepA : ∀ b o, s.heap.get? b = some o → h1.get? b = some o := fun b o e => Heap.get?_push_of_some _ e
  have hS : h1.objs.size ∉ [s.heap.objs.size, a] := fun z => by
    rcases List.mem_cons.mp z with z | z
    · exact off1 z1 z
    · exact off2 z1 ha (List.mem_singleton.mp z).symm
  have Wk := Walks.list (prog := X.prog) (w := X.w) (A := X.A.in1) hh s.heap.objs.size a hne (ps.map Value.ref).toArray
  refine wpAny_pure ⟨plainId_quiet F.plain_min_loop _, min_begins (Still := Still) (lt := lt) Wk hS (fun x y st' rs i p hp => ?_) (by simp; omega) cmp (c := 0) ?_ ?_ (Heap.get?_push_size _ rfl) fun v y tk hv rs => ?_⟩
  · obtain ⟨g1, its', g2, g3⟩ := st' i p hp
    refine ⟨g1, its', tupKeep (fun o e => rs p o ?_ ?_ e) g2, g3⟩
    · intro z; rw [List.mem_singleton.mp z] at g1; exact Nat.lt_irrefl _ g1
    · exact off2 z1 g1
  · intro i p hp
    obtain ⟨g1, its', g2, g3⟩ := still0 i p hp
    exact ⟨g1, its', tupKeep (fun o e => Heap.get?_push_of_some _ (keepA p o e)) g2, g3⟩
  · exact ⟨st.1.at fun o e => Heap.get?_push_of_some _ e, st.2.at fun o e => Heap.get?_push_of_some _ e⟩
  · refine pick v (by simpa using hv) _ (I.kept fun b o e => rs b o ?_ ?_ (Heap.get?_push_of_some _ (keepA b o e)))
    · intro z; have := Heap.lt_size e; rw [List.mem_singleton.mp z] at this; exact Nat.lt_irrefl _ this
    · exact off2 z1 (Heap.lt_size e)
end
end K65

namespace K65
open PySem L2
local macro_rules | `(tactic| walk_at "hs") => `(tactic| with_reducible repeat' first | assumption | exact upd_same | refine upd_keep (by assumption) ?_ | refine upd_oth (by first | assumption | exact Ne.symm (by assumption)) ?_ | refine same_ap (by assumption) ?_ | refine but_ap (by assumption) (by assumption) ?_)
local macro_rules | `(tactic| walk_at "hn") => `(tactic| with_reducible first | assumption | exact none_upd (by assumption) | exact none_upd (none_upd (by assumption)) | exact none_upd (none_upd (none_upd (by assumption))) | exact none_upd (none_upd (none_upd (none_upd (by assumption)))) | exact none_upd (none_upd (none_upd (none_upd (none_upd (by assumption))))) | exact none_upd (none_upd (none_upd (none_upd (none_upd (none_upd (by assumption)))))))
local macro_rules | `(tactic| walk_at "hS") => `(tactic| with_reducible repeat' first | exact Same.refl _ | assumption | refine same_upd ?_ ?_)
/-- where arrows lead from v -/
def foll (ar : Arr) (v : Int) : List Int := (ar.filter fun a => decide (a.1 = v)).map (·.2)
theorem mem_foll {ar : Arr} {v y : Int} : y ∈ foll ar v ↔ (v, y) ∈ ar := by
  unfold foll
  rw [List.mem_map]
  constructor
  · rintro ⟨⟨a, b⟩, h, rfl⟩
    obtain ⟨h1, h2⟩ := List.mem_filter.mp h
    have h2 : a = v := by simpa using h2
    subst h2
    exact h1
  · intro h
    exact ⟨(v, y), List.mem_filter.mpr ⟨h, by simp⟩, rfl⟩
theorem foll_snoc (ar : Arr) (a : Int × Int) (v : Int) : foll (ar ++ [a]) v = foll ar v ++ (if a.1 = v then [a.2] else []) := by
  unfold foll
  rw [List.filter_append, List.map_append]
  by_cases h : a.1 = v <;> simp [h]
theorem foll_len (ar : Arr) (v : Int) : (foll ar v).length ≤ ar.length := by
  unfold foll
  rw [List.length_map]
  exact List.length_filter_le _ _
def spFoll (C : Addr) : Sp := fun vs H Q _ => ∃ (g : Addr) (n : Nat) (ar : Arr) (v : Int), vs = [.ref g, .int v] ∧ GraphAt C H g n ar ∧ ar.length ≤ 11 ∧
  ∀ (H' : Hp) (q : Addr), Same H H' → H q = none → H' q = some (.lst ((foll ar v).map V.int)) → Q (.ref q) H'
def spEnters (K : PySem.W.Frag) (C : Addr) : Sp := fun vs H Q _ => ∃ (g b : Addr) (n : Nat) (ar : Arr) (v : Int) (fr : List Int), vs = [.ref g, .int v, .ref b] ∧ GraphAt C H g n ar ∧ ar.length ≤ 11 ∧ Nums K H b fr ∧
  ∀ H' : Hp, Same H H' → Q (.bl ((foll ar v).any fun y => decide (y ∈ fr))) H'
section
variable {P : Program} {w : World} {K : PySem.W.Frag} {mg : Str → Option Value} {base : Heap}
theorem ok_foll {f C : Addr} {fd : FuncData} (F : Fun K "followers" "Graph.followers" sFollowers f fd) (T : GTxt K mg C) : FnOk P w K mg base CX0 1 f fd ["self", "node"] (spFoll C) := by
  refine F.ok scFollowers (fun vs H Q E h => ?_) (fun cdv A outer s H vs Q E hr h => ?_)
  · obtain ⟨g, n, ar, v, rfl, _⟩ := h
    rfl
  · obtain ⟨g, n, ar, v, rfl, hg, hl, k⟩ := h
    refine ⟨_, pss_one (ps_ret (pe_lc (own := [("x", 2), ("y", 3)]) (g := gTup K 2 (gCons (gName 2) (gCons (gName 3) gNil))) (by rfl) scFollowers.nd (pi_tup (pe_fld (pv 0) rfl)) (blkOk_by (N := ["self", "node", "x", "y"]) (sc := defScope sFollowers) (by decide +kernel))
        (fun _ _ _ _ _ => pg_tup rfl (pgs_cons (pg_name (i := 2) scFollowers.nd rfl (Or.inl rfl)) (pgs_cons (pg_name (i := 3) scFollowers.nd rfl (Or.inl rfl)) pgs_nil)))
        (fun _ _ _ _ _ => pts_one (pt_cmpR op_eq (pv 2) (pv 1) (nomark _))) (fun _ _ _ _ _ => pv 3))), ?_⟩
    obtain ⟨dx, t, ps, h1, h2, hA⟩ := id hg
    have lps : ps.length = ar.length := hA.length
    refine ⟨_, rfl, g, C, dx, _, _, rfl, h1, T.cl, T.nA, gfs_arrows _ _, t, rfl, ⟨_, SqT.of h2⟩, fun D hD => ?_⟩
    refine lc_tup (K := K) (a := t) (xs := ps.map V.ref) (fun i H' => Same H H' ∧ H' D = some (.lst ((foll (ar.take i) v).map V.int))) ⟨same_new hD, upd_same⟩ (fun i H' _ ⟨sm, _⟩ => SqT.of (sm _ _ h2)) ?_ ?_
    · rintro i x H' hi ⟨sm, hk⟩
      obtain ⟨c, hc, rfl⟩ : ∃ t, ps[i]? = some t ∧ x = .ref t := by
        rw [List.getElem?_map] at hi
        cases e : ps[i]? with
        | none => rw [e] at hi; cases hi
        | some u => rw [e] at hi; exact ⟨u, rfl, (Option.some.inj hi).symm⟩
      obtain ⟨⟨x, y⟩, ha, hxy⟩ := hA.at hc
      have et : foll (ar.take (i + 1)) v = foll (ar.take i) v ++ (if x = v then [y] else []) := by
        rw [List.take_add_one, ha]
        exact foll_snoc _ (x, y) v
      have hlen : (foll (ar.take i) v).length ≤ 11 := by
        have := foll_len (ar.take i) v
        rw [List.length_take] at this
        omega
      refine ⟨c, _, rfl, SqT.of (sm _ _ hxy), rfl, _, _, rfl, _, _, rfl, rfl, rfl, ?_⟩
      refine ⟨_, rfl, _, rfl, rfl, _, rfl, ite2 (fun q => ?_) (fun q => ?_)⟩
      · have hx : x = v := V.int.inj (of_decide_eq_true q)
        refine ⟨_, rfl, _, hk, by rw [List.length_map]; exact small1000 (by omega), fun b o e => ?_, ?_⟩
        · rw [upd_ne (ne_of_none e hD)]; exact sm _ _ e
        · rw [upd_same, et, if_pos hx, List.map_append]; rfl
      · have hx : x ≠ v := fun e => q (decide_eq_true (by rw [e]))
        refine ⟨sm, ?_⟩
        rw [et, if_neg hx, List.append_nil]
        exact hk
    · rintro H' ⟨sm, hk⟩
      rw [List.length_map, lps, List.take_length] at hk
      exact k _ D sm hD hk
theorem ok_enters {f fO C : Addr} {fd fdO : FuncData} (F : Fun K "enters" "Graph.enters" sEnters f fd) (T : GTxt K mg C) (GO : FnOk P w K mg base CX0 1 fO fdO ["self", "node"] (spFoll C)) (bO : Binds K fdO ["self", "node"] []) (mO : Meth K C "followers" fO) (zany : mg "any" = none) :
    FnOk P w K mg base CX0 2 f fd ["self", "node", "goals"] (spEnters K C) := by
  refine F.ok scEnters (fun vs H Q E h => ?_) (fun cdv A outer s H vs Q E hr h => ?_)
  · obtain ⟨g, b, n, ar, v, fr, rfl, _⟩ := h
    rfl
  · obtain ⟨g, b, n, ar, v, fr, rfl, hg, hl, hb, k⟩ := h
    refine ⟨_, pss_one (ps_ret (pe_callB (cr_any rfl) (by rfl) zany b_any (pa_cons (pe_lc (own := [("y", 3)]) (g := gName 3) (te := tOp (rIn K false) (tVar 3) (tVar 2)) (by rfl) scEnters.nd (pi_list (pe_meth (pv 0) T.cl mO GO hr bO .nil pass0 (pa_cons (pv 1) pa_nil)))
        (blkOk_by (N := ["self", "node", "goals", "y"]) (sc := defScope sEnters) (by decide +kernel)) (fun _ _ _ _ _ => pg_name (i := 3) scEnters.nd rfl (Or.inl rfl)) (fun _ _ _ _ _ => pts_nil)
        (fun _ _ _ _ _ => pe_cmpR op_in_seq (pv 3) (pv 2) (by rfl))) pa_nil))), ?_⟩
    obtain ⟨dx, t, ps, h1, h2, hA⟩ := id hg
    refine ⟨_, rfl, g, dx, _, rfl, h1, gfs_no _ _ (by decide +kernel) (by decide +kernel), _, rfl, g, n, ar, v, rfl, hg, hl, fun H1 q s1 hq h3 => ?_⟩
    refine ⟨q, rfl, ⟨_, SqL.of h3⟩, fun D hD => ?_⟩
    have hlen := foll_len ar v
    refine lc_list (K := K) (a := q) (xs := (foll ar v).map V.int) (fun i H' => Same H1 H' ∧ H' D = some (.lst (((foll ar v).take i).map fun y => V.bl (decide (y ∈ fr))))) ⟨same_new hD, upd_same⟩ (fun i H' _ ⟨sm, _⟩ => SqL.of (sm _ _ h3)) ?_ ?_
    · rintro i x H' hi ⟨sm, hk⟩
      obtain ⟨hi2, e⟩ := List.getElem?_eq_some_iff.mp hi
      rw [List.getElem_map] at e
      rw [List.length_map] at hi2
      subst e
      refine ⟨rfl, _, rfl, _, rfl, b, _, rfl, nums_same (s1.trans sm) hb, rfl, flat_ints _, _, hk, ?_, ?_, ?_⟩
      · rw [List.length_map, List.length_take]; exact small1000 (by omega)
      · exact same_mut sm hD
      · rw [upd_same, List.take_add_one, List.getElem?_eq_getElem hi2, List.map_append]
        show some (HO.lst (_ ++ [V.bl (inV _ _)])) = _
        rw [inV_ints]
        rfl
    · rintro H' ⟨sm, hk⟩
      rw [List.length_map, List.take_length] at hk
      have hk : H' D = some (.lst (((foll ar v).map fun y => decide (y ∈ fr)).map V.bl)) := by rw [hk, List.map_map]; rfl
      refine ⟨D, _, rfl, SqL.of hk, ?_⟩
      rw [List.any_map]
      exact k H' (s1.trans sm)
end
end K65

namespace K65
open PySem L2
local macro_rules | `(tactic| walk_at "hs") => `(tactic| with_reducible repeat' first | assumption | exact upd_same | refine upd_keep (by assumption) ?_ | refine upd_oth (by first | assumption | exact Ne.symm (by assumption)) ?_ | refine same_ap (by assumption) ?_ | refine but_ap (by assumption) (by assumption) ?_)
local macro_rules | `(tactic| walk_at "hn") => `(tactic| with_reducible first | assumption | exact none_upd (by assumption) | exact none_upd (none_upd (by assumption)) | exact none_upd (none_upd (none_upd (by assumption))) | exact none_upd (none_upd (none_upd (none_upd (by assumption)))) | exact none_upd (none_upd (none_upd (none_upd (none_upd (by assumption))))) | exact none_upd (none_upd (none_upd (none_upd (none_upd (none_upd (by assumption)))))))
local macro_rules | `(tactic| walk_at "hS") => `(tactic| with_reducible repeat' first | exact Same.refl _ | assumption | refine same_upd ?_ ?_)
/-! ### the steps that are known -/
def dl (ks : List (Int × Nat)) (x : Int) : Option Nat := (ks.find? fun e => decide (e.1 = x)).map (·.2)
def encK (ks : List (Int × Nat)) : List (Key × V) := ks.map fun e => (Sum.inl e.1, V.int (e.2 : Int))
theorem dl_cons (e : Int × Nat) (ks : List (Int × Nat)) (x : Int) : dl (e :: ks) x = if e.1 = x then some e.2 else dl ks x := by
  unfold dl
  rw [List.find?_cons]
  by_cases h : e.1 = x
  · rw [if_pos h, decide_eq_true h]; rfl
  · rw [if_neg h, decide_eq_false h]
theorem valV_enc (x : Int) : ∀ ks : List (Int × Nat), valV (encK ks) (Sum.inl x) = (dl ks x).map fun (k : Nat) => V.int (k : Int)
  | [] => rfl
  | e :: ks => by
    rw [dl_cons]
    show valV ((Sum.inl e.1, V.int (e.2 : Int)) :: encK ks) (Sum.inl x) = _
    by_cases h : e.1 = x
    · rw [valV_pos (by rw [h]), if_pos h]; rfl
    · rw [valV_neg (fun q => h (Sum.inl.inj q)), if_neg h]; exact valV_enc x ks
theorem dl_append (ks ms : List (Int × Nat)) (x : Int) : dl (ks ++ ms) x = match dl ks x with
    | some k => some k
    | none => dl ms x := by
  induction ks with
  | nil => rfl
  | cons e ks ih =>
    rw [List.cons_append, dl_cons, dl_cons]
    by_cases h : e.1 = x
    · rw [if_pos h, if_pos h]
    · rw [if_neg h, if_neg h]; exact ih
theorem dl_const (c : Nat) (x : Int) : ∀ fr : List Int, dl (fr.map fun y => (y, c)) x = if x ∈ fr then some c else none
  | [] => rfl
  | y :: fr => by
    rw [List.map_cons, dl_cons]
    show (if y = x then some c else dl (fr.map fun y => (y, c)) x) = _
    rw [dl_const c x fr]
    by_cases h : y = x
    · subst h; simp
    · rw [if_neg h]
      by_cases h2 : x ∈ fr
      · rw [if_pos h2, if_pos (List.mem_cons_of_mem _ h2)]
      · rw [if_neg h2, if_neg (fun q => by rcases List.mem_cons.mp q with q | q; exact h q.symm; exact h2 q)]
theorem dl_mem {ks : List (Int × Nat)} {x : Int} : (dl ks x).isSome = true ↔ x ∈ ks.map (·.1) := by
  unfold dl
  rw [Option.isSome_map, List.find?_isSome]
  constructor
  · rintro ⟨e, he, h⟩
    exact List.mem_map.mpr ⟨e, he, by simpa using h⟩
  · intro h
    obtain ⟨e, he, rfl⟩ := List.mem_map.mp h
    exact ⟨e, he, by simp⟩
/-- ahead of a turn: the steps, the front, the count -/
structure Bfs (n : Nat) (ar : Arr) (goal : Int) (ks : List (Int × Nat)) (fr : List Int) (c : Nat) : Prop where
  goal0 : dl ks goal = some 0
  zero : ∀ x, dl ks x = some 0 → x = goal
  step : ∀ x k, dl ks x = some (k + 1) → ∃ y, (x, y) ∈ ar ∧ dl ks y = some k
  front : ∀ x ∈ fr, dl ks x = some c
  back : ∀ x y, (x, y) ∈ ar → (dl ks y).isSome = true → y ∉ fr → (dl ks x).isSome = true
  keys : (ks.map (·.1)).Nodup
  node : ∀ x ∈ ks.map (·.1), x ∈ nodes n
  few : c + (if fr = [] then 0 else 1) ≤ ks.length
  low : ∀ x k, dl ks x = some k → k ≤ c
theorem Bfs.len {n : Nat} {ar : Arr} {goal : Int} {ks : List (Int × Nat)} {fr : List Int} {c : Nat} (B : Bfs n ar goal ks fr c) : ks.length ≤ n := by
  have := sub_len B.keys B.node
  rwa [length_nodes, List.length_map] at this
theorem Bfs.done {n : Nat} {ar : Arr} {goal : Int} {ks : List (Int × Nat)} {c : Nat} (B : Bfs n ar goal ks [] c) : Dist ar goal (dl ks) :=
  ⟨B.goal0, B.zero, B.step, fun x y h1 h2 => B.back x y h1 h2 (by simp)⟩
theorem Bfs.start {n : Nat} {ar : Arr} {goal : Int} (hg : goal ∈ nodes n) : Bfs n ar goal [(goal, 0)] [goal] 0 where
  goal0 := by simp [dl]
  zero := fun x h => by
    rw [dl_cons] at h
    by_cases e : goal = x
    · exact e.symm
    · rw [if_neg e] at h; cases h
  step := fun x k h => by
    rw [dl_cons] at h
    by_cases e : goal = x
    · rw [if_pos e] at h; cases h
    · rw [if_neg e] at h; cases h
  front := fun x h => by rw [List.mem_singleton.mp h]; simp [dl]
  back := fun x y _ h2 h3 => by
    have := dl_mem.mp h2
    simp at this
    exact absurd (by simp [this]) h3
  keys := by simp
  node := fun x h => by simp at h; rw [h]; exact hg
  few := by simp
  low := fun x k h => by
    rw [dl_cons] at h
    by_cases e : goal = x
    · rw [if_pos e] at h; cases h; exact Nat.le_refl _
    · rw [if_neg e] at h; cases h
/-- the new front -/
def frontOf (n : Nat) (ar : Arr) (ks : List (Int × Nat)) (fr : List Int) : List Int := (nodes n).filter fun x => !(dl ks x).isSome && (foll ar x).any fun y => decide (y ∈ fr)
theorem mem_frontOf {n : Nat} {ar : Arr} {ks : List (Int × Nat)} {fr : List Int} {x : Int} : x ∈ frontOf n ar ks fr ↔ x ∈ nodes n ∧ dl ks x = none ∧ ∃ y ∈ fr, (x, y) ∈ ar := by
  unfold frontOf
  rw [List.mem_filter, Bool.and_eq_true, List.any_eq_true, Bool.not_eq_true', Option.isSome_eq_false_iff, Option.isNone_iff_eq_none]
  constructor
  · rintro ⟨h1, h2, y, h3, h4⟩
    exact ⟨h1, h2, y, by simpa using h4, mem_foll.mp h3⟩
  · rintro ⟨h1, h2, y, h3, h4⟩
    exact ⟨h1, h2, y, mem_foll.mpr h4, by simpa using h3⟩
theorem Bfs.turn {n : Nat} {ar : Arr} {goal : Int} {ks : List (Int × Nat)} {fr : List Int} {c : Nat} (hA : ∀ x y, (x, y) ∈ ar → x ∈ nodes n) (hf : fr ≠ []) (B : Bfs n ar goal ks fr c) :
    Bfs n ar goal (ks ++ (frontOf n ar ks fr).map fun x => (x, c + 1)) (frontOf n ar ks fr) (c + 1) := by
  have key : ∀ x, dl (ks ++ (frontOf n ar ks fr).map fun x => (x, c + 1)) x = match dl ks x with
      | some k => some k
      | none => if x ∈ frontOf n ar ks fr then some (c + 1) else none := fun x => by rw [dl_append, dl_const]
  have old : ∀ x k, dl ks x = some k → dl (ks ++ (frontOf n ar ks fr).map fun x => (x, c + 1)) x = some k := fun x k h => by rw [key, h]
  have new : ∀ x k, dl (ks ++ (frontOf n ar ks fr).map fun x => (x, c + 1)) x = some k → dl ks x = some k ∨ (x ∈ frontOf n ar ks fr ∧ k = c + 1) := fun x k h => by
    rw [key] at h
    cases e : dl ks x with
    | some j => rw [e] at h; exact .inl h
    | none =>
      rw [e] at h
      by_cases q : x ∈ frontOf n ar ks fr
      · simp only [q, if_true] at h
        exact .inr ⟨q, (Option.some.inj h).symm⟩
      · simp only [q, if_false] at h
        cases h
  refine ⟨old _ _ B.goal0, fun x h => ?_, fun x k h => ?_, fun x hx => ?_, fun x y h1 h2 h3 => ?_, ?_, fun x hx => ?_, ?_, fun x k h => ?_⟩
  · rcases new x 0 h with h | ⟨_, h⟩
    · exact B.zero x h
    · omega
  · rcases new x _ h with h | ⟨h1, h2⟩
    · obtain ⟨y, a, b⟩ := B.step x k h
      exact ⟨y, a, old _ _ b⟩
    · obtain ⟨_, _, y, hy, ha⟩ := mem_frontOf.mp h1
      have : k = c := by omega
      subst this
      exact ⟨y, ha, old _ _ (B.front y hy)⟩
  · rw [key, (mem_frontOf.mp hx).2.1]
    simp [hx]
  · cases e : dl ks x with
    | some j => rw [key, e]; rfl
    | none =>
      have hy : (dl ks y).isSome = true := by
        cases e2 : dl ks y with
        | some j => rfl
        | none =>
          rw [key, e2] at h2
          simp [h3] at h2
      by_cases q : y ∈ fr
      · rw [key, e]
        have : x ∈ frontOf n ar ks fr := mem_frontOf.mpr ⟨hA x y h1, e, y, q, h1⟩
        simp [this]
      · have := B.back x y h1 hy q
        rw [e] at this
        cases this
  · rw [List.map_append, List.map_map]
    have e : ((fun e : Int × Nat => e.1) ∘ fun x => (x, c + 1)) = id := rfl
    rw [e, List.map_id]
    refine List.nodup_append.mpr ⟨B.keys, (nodup_nodes n).filter _, fun a ha b hb q => ?_⟩
    subst q
    have h1 := dl_mem.mpr ha
    rw [(mem_frontOf.mp hb).2.1] at h1
    cases h1
  · rw [List.map_append, List.map_map] at hx
    have e : ((fun e : Int × Nat => e.1) ∘ fun x => (x, c + 1)) = id := rfl
    rw [e, List.map_id] at hx
    rcases List.mem_append.mp hx with hx | hx
    · exact B.node x hx
    · exact (mem_frontOf.mp hx).1
  · have := B.few
    rw [if_neg hf] at this
    rw [List.length_append, List.length_map]
    by_cases z : frontOf n ar ks fr = []
    · rw [if_pos z]; omega
    · rw [if_neg z]
      have := List.length_pos_iff.mpr z
      omega
  · rcases new x k h with h | ⟨_, h⟩
    · have := B.low x k h; omega
    · omega
end K65

namespace K65
open PySem L2
local macro_rules | `(tactic| walk_at "hs") => `(tactic| with_reducible repeat' first | assumption | exact upd_same | refine upd_keep (by assumption) ?_ | refine upd_oth (by first | assumption | exact Ne.symm (by assumption)) ?_ | refine same_ap (by assumption) ?_ | refine but_ap (by assumption) (by assumption) ?_)
local macro_rules | `(tactic| walk_at "hn") => `(tactic| with_reducible first | assumption | exact none_upd (by assumption) | exact none_upd (none_upd (by assumption)) | exact none_upd (none_upd (none_upd (by assumption))) | exact none_upd (none_upd (none_upd (none_upd (by assumption)))) | exact none_upd (none_upd (none_upd (none_upd (none_upd (by assumption))))) | exact none_upd (none_upd (none_upd (none_upd (none_upd (none_upd (by assumption)))))))
local macro_rules | `(tactic| walk_at "hS") => `(tactic| with_reducible repeat' first | exact Same.refl _ | assumption | refine same_upd ?_ ?_)
theorem encK_append (a b : List (Int × Nat)) : encK (a ++ b) = encK a ++ encK b := List.map_append
def spSteps (C : Addr) : Sp := fun vs H Q _ => ∃ (g : Addr) (n : Nat) (ar : Arr) (v : Int), vs = [.ref g, .int v] ∧ GraphAt C H g n ar ∧ ar.length ≤ 11 ∧ n ≤ 8 ∧ v ∈ nodes n ∧ ArOk n ar ∧
  ∀ (H' : Hp) (q : Addr) (ks : List (Int × Nat)), Same H H' → H q = none → H' q = some (.dK (encK ks)) → Dist ar v (dl ks) → (∀ x j, dl ks x = some j → j ≤ n) → Q (.ref q) H'
section
variable {P : Program} {w : World} {K : PySem.W.Frag} {mg : Str → Option Value} {base : Heap}
theorem ok_steps {f fE C : Addr} {fd fdE : FuncData} (F : Fun K "steps_to" "Graph.steps_to" sSteps f fd) (T : GTxt K mg C) (GE : FnOk P w K mg base CX0 2 fE fdE ["self", "node", "goals"] (spEnters K C)) (bE : Binds K fdE ["self", "node", "goals"] []) (mE : Meth K C "enters" fE) (zrange : mg "range" = none) :
    FnOk P w K mg base CX0 3 f fd ["self", "goal"] (spSteps C) := by
  refine F.ok scSteps (fun vs H Q E h => ?_) (fun cdv A outer s H vs Q E hr h => ?_)
  · obtain ⟨g, n, ar, v, rfl, _⟩ := h
    rfl
  · obtain ⟨g, n, ar, v, rfl, hg, hl, hn, hv, hO, k⟩ := h
    have hu := hu_of hr
    refine ⟨_, pss_cons (ps_set (i := 2) scSteps.nd rfl (.inr rfl) (pe_disp (pps_cons (pv 1) pe_int pps_nil) (by rfl) (by rfl) (fun z => by cases z) (by decide)))
      (pss_cons (ps_set (i := 3) scSteps.nd rfl (.inr rfl) (pe_lst (pa_cons (pv 1) pa_nil)))
      (pss_cons (ps_set (i := 4) scSteps.nd rfl (.inl rfl) pe_int)
      (pss_cons (ps_while PassesOwn.never (pt_truth (pv 3) (by intro _; rfl))
        (pss_cons (ps_aug (i := 4) scSteps.nd rfl (.inl rfl) pe_int ip_add)
        (pss_cons (ps_set (i := 3) scSteps.nd rfl (.inr rfl) (pe_lc (own := [("x", 5)]) (g := gName 5) (tt := tAnd (tB (tDNotIn (tVar 5) (tVar 2))) (tB (tMeth C "enters" (spEnters K C) [] E0 (tVar 0) (tCons (tVar 5) (tCons (tVar 3) tNil))))) (by rfl) scSteps.nd
            (pi_range2 (by rfl) zrange (pa_cons pe_int (pa_cons (pe_op op_add (pe_fld (pv 0) rfl) pe_int) pa_nil))) (blkOk_by (N := ["self", "goal", "steps", "front", "count", "x"]) (sc := defScope sSteps) (by decide +kernel))
            (fun _ _ _ _ _ => pg_name (i := 5) scSteps.nd rfl (Or.inl rfl))
            (fun _ _ _ _ _ => pts_one (PW.pt (pw_and (pt_cmp (pc_dnotin hu (pv 5) (pv 2)) (by rfl)) (pw_and1 (pt_val (pe_meth (pv 0) T.cl mE GE hr bE .nil pass0 (pa_cons (pv 5) (pa_cons (pv 3) pa_nil)))))))) (fun _ _ _ _ _ => pv 5)))
        (pss_one (ps_for PassesOwn.never rfl (pi_list (pv 3)) (pg_name (i := 5) scSteps.nd rfl (.inl rfl)) (pss_one (ps_dput hu (pv 2) (pv 5) (pv 4) rfl)))))))
      (pss_one (ps_ret (pv 2)))))), ?_⟩
    obtain ⟨dx, t, ps, hg1, hg2, hgA⟩ := id hg
    refine fun D hD => ⟨_, rfl, upd_same, [(Sum.inl v, V.int 0)], rfl, (show 1 ≤ 15 by decide), ?_⟩
    have eD : L2.upd (L2.upd H D (.dK [])) D (.dK (mergeK [] [(Sum.inl v, V.int 0)])) = L2.upd H D (.dK (encK [(v, 0)])) := upd_upd
    rw [eD]
    refine ⟨_, rfl, (show 1 ≤ sizeLine by decide), fun f0 hf0 => ?_⟩
    have nfD : f0 ≠ D := fun e => by rw [e, upd_same] at hf0; cases hf0
    refine ⟨fun m σ H' => ∃ (ks : List (Int × Nat)) (fr : List Int) (c : Nat) (fl : Addr) (x5 : Option V), σ = [some (.ref g), some (.int v), some (.ref D), some (.ref fl), some (.int (c : Int)), x5] ∧ Same H H' ∧ H' D = some (.dK (encK ks)) ∧ H' fl = some (.lst (fr.map V.int)) ∧ fl ≠ D ∧
        Bfs n ar v ks fr c ∧ m = 2 * (n - ks.length) + (if fr = [] then 0 else 1), ⟨_, [(v, 0)], [v], 0, f0, none, rfl, by walk_at "hS", by walk_at "hs", upd_same, nfD, Bfs.start hv, rfl⟩, ?_⟩
    rintro m σ H1 ⟨ks, fr, c, fl, x5, rfl, sm, hD1, hf1, nfl, B, rfl⟩
    refine ⟨_, rfl, _, .inl ⟨_, SqL.of hf1, rfl⟩, ?_⟩
    cases hfr : fr with
    | nil =>
      subst hfr
      refine iteF ⟨_, rfl, k H1 D ks sm hD hD1 B.done fun x j hj => ?_⟩
      have := B.low x j hj
      have := B.few
      have := B.len
      simp at *
      omega
    | cons y0 fr0 =>
      refine iteT ⟨_, fun _ _ h => h, ?_⟩
      rw [← hfr]
      have hne : fr ≠ [] := by rw [hfr]; exact fun z => nomatch z
      refine ⟨_, rfl, _, _, rfl, rfl, ?_⟩
      have gA1 := hg.same sm
      obtain ⟨dx1, t1, ps1, hg1', _, _⟩ := id gA1
      refine ⟨_, rfl, g, C, dx1, _, _, rfl, hg1', T.cl, T.nS, gfs_size _ _, _, _, rfl, rfl, _, _, rfl, ⟨by decide, by decide, by omega, by omega⟩, fun L hL => ?_⟩
      let q : Int → Bool := fun x => !(dl ks x).isSome && (foll ar x).any fun y => decide (y ∈ fr)
      refine lc_range (lo := 1) (n := ((n : Int) + 1 - 1).toNat) (Evl.Cw H1 (fun i => q (1 + (i : Int))) (fun i => V.int (1 + (i : Int))) L) ⟨hL, Evl.Ex.new hL, upd_same⟩ (fun i H2 hi pc => ⟨rfl, Evl.cw_turn pc (by omega) ?_ (fun _ => Evl.ev_var rfl)⟩) (fun H2 pc => ?_)
      · intro H3 ex Q' kq
        refine ⟨_, rfl, _, rfl, D, _, rfl, DGet.k (k := Sum.inl (1 + (i : Int))) (ex _ _ hD1), _, rfl, ?_⟩
        rw [valV_enc, Option.isSome_map]
        refine ite2 (fun z => ?_) (fun z => ?_)
        · have sx : Same H1 H3 := ex
          refine ⟨_, rfl, g, dx1, _, rfl, ex _ _ hg1', gfs_no _ _ (by decide +kernel) (by decide +kernel), _, rfl, _, rfl, g, fl, n, ar, 1 + (i : Int), fr, rfl, gA1.same sx, hl, .inl (SqL.of (ex _ _ hf1)), fun H4 s4 => ⟨_, rfl, ?_⟩⟩
          have := kq H4 s4
          have eq : q (1 + (i : Int)) = (foll ar (1 + (i : Int))).any fun y => decide (y ∈ fr) := by show (_ && _) = _; rw [z, Bool.true_and]
          rwa [eq] at this
        · have z : (!(dl ks (1 + (i : Int))).isSome) = false := Bool.eq_false_iff.mpr z
          have := kq H3 (fun _ _ e => e)
          have eq : q (1 + (i : Int)) = false := by show (_ && _) = _; rw [z, Bool.false_and]
          rwa [eq] at this
      · obtain ⟨p1, p2, p3⟩ := pc
        rw [show ((n : Int) + 1 - 1).toNat = n by omega, given_nodes n _ q (fun _ _ => rfl)] at p3
        have p3 : H2 L = some (.lst ((frontOf n ar ks fr).map V.int)) := p3
        have p2 : Same H1 H2 := p2
        have hD2 := p2 _ _ hD1
        have nLD : L ≠ D := fun e => by rw [e, hD1] at p1; cases p1
        have flen : (frontOf n ar ks fr).length ≤ n := by
          have := List.length_filter_le (fun x => !(dl ks x).isSome && (foll ar x).any fun y => decide (y ∈ fr)) (nodes n)
          rwa [length_nodes] at this
        have klen := B.len
        refine ⟨_, rfl, L, rfl, ⟨_, SqL.of p3⟩, for_list (K := K) (a := L) (xs := (frontOf n ar ks fr).map V.int) (fun i σ H' => ∃ x5 : Option V, σ = [some (.ref g), some (.int v), some (.ref D), some (.ref L), some (.int ((c : Int) + 1)), x5] ∧ Same H H' ∧
          H' D = some (.dK (encK (ks ++ ((frontOf n ar ks fr).take i).map fun x => (x, c + 1)))) ∧ H' L = some (.lst ((frontOf n ar ks fr).map V.int))) ⟨_, rfl, sm.trans p2, by simpa using hD2, p3⟩ (fun i σ H' _ ⟨_, _, _, _, h⟩ => SqL.of h) ?_ ?_⟩
        · rintro i x σ H3 hi ⟨x5, rfl, s3, hD3, hL3⟩
          obtain ⟨hi2, e⟩ := List.getElem?_eq_some_iff.mp hi
          rw [List.getElem_map] at e
          rw [List.length_map] at hi2
          subst e
          have hm : (frontOf n ar ks fr)[i] ∈ frontOf n ar ks fr := List.getElem_mem hi2
          have hno : dl (ks ++ ((frontOf n ar ks fr).take i).map fun x => (x, c + 1)) (frontOf n ar ks fr)[i] = none := by
            rw [dl_append, (mem_frontOf.mp hm).2.1, dl_const, if_neg]
            intro z
            obtain ⟨j, hj, ej⟩ := List.getElem_of_mem z
            rw [List.getElem_take] at ej
            rw [List.length_take] at hj
            have := (List.getElem_inj ((nodup_nodes n).filter _)).mp ej
            omega
          refine ⟨_, rfl, _, rfl, _, rfl, D, _, rfl, DPut.k (k := Sum.inl (frontOf n ar ks fr)[i]) hD3 ?_, ?_⟩
          · show (encK _).length < sizeLine
            unfold encK
            rw [List.length_map, List.length_append, List.length_map, List.length_take]
            exact small1000 (by omega)
          · refine ⟨_, rfl, same_mut s3 hD, ?_, by rw [upd_ne nLD]; exact hL3⟩
            rw [upd_same, putK_new _ (by rw [valV_enc, hno]; rfl), List.take_add_one, List.getElem?_eq_getElem hi2, List.map_append, ← List.append_assoc, encK_append (ks ++ ((frontOf n ar ks fr).take i).map fun x => (x, c + 1))]
            rfl
        · rintro σ H3 ⟨x5, rfl, s3, hD3, hL3⟩
          rw [List.length_map, List.take_length] at hD3
          have hA' : ∀ x y, (x, y) ∈ ar → x ∈ nodes n := fun x y h => mem_nodes.mpr (hO _ h).2.1
          refine ⟨_, ?_, ks ++ (frontOf n ar ks fr).map (fun x => (x, c + 1)), frontOf n ar ks fr, c + 1, L, x5, rfl, s3, hD3, hL3, nLD, B.turn hA' hne, rfl⟩
          have klen2 := (B.turn hA' hne).len
          rw [List.length_append, List.length_map] at klen2 ⊢
          rw [if_neg hne]
          by_cases z : frontOf n ar ks fr = []
          · rw [if_pos z, z]; simp
          · rw [if_neg z]
            have := List.length_pos_iff.mpr z
            omega
end
end K65

namespace K65
open PySem L2
local macro_rules | `(tactic| walk_at "hs") => `(tactic| with_reducible repeat' first | assumption | exact upd_same | refine upd_keep (by assumption) ?_ | refine upd_oth (by first | assumption | exact Ne.symm (by assumption)) ?_ | refine same_ap (by assumption) ?_ | refine but_ap (by assumption) (by assumption) ?_)
local macro_rules | `(tactic| walk_at "hn") => `(tactic| with_reducible first | assumption | exact none_upd (by assumption) | exact none_upd (none_upd (by assumption)) | exact none_upd (none_upd (none_upd (by assumption))) | exact none_upd (none_upd (none_upd (none_upd (by assumption)))) | exact none_upd (none_upd (none_upd (none_upd (none_upd (by assumption))))) | exact none_upd (none_upd (none_upd (none_upd (none_upd (none_upd (by assumption)))))))
local macro_rules | `(tactic| walk_at "hS") => `(tactic| with_reducible repeat' first | exact Same.refl _ | assumption | refine same_upd ?_ ?_)
/-- the known followers, with their steps -/
def kn (ks : List (Int × Nat)) (l : List Int) : Arr := l.filterMap fun y => (dl ks y).map fun (k : Nat) => ((k : Int), y)
theorem kn_snoc (ks : List (Int × Nat)) (l : List Int) (y : Int) : kn ks (l ++ [y]) = kn ks l ++ (match dl ks y with
    | some k => [((k : Int), y)]
    | none => []) := by
  unfold kn
  rw [List.filterMap_append]
  cases e : dl ks y with
  | none => simp [e]
  | some k => simp [e]
theorem mem_kn {ks : List (Int × Nat)} {l : List Int} {a : Int × Int} : a ∈ kn ks l ↔ ∃ k : Nat, a.2 ∈ l ∧ dl ks a.2 = some k ∧ a.1 = k := by
  unfold kn
  rw [List.mem_filterMap]
  constructor
  · rintro ⟨y, hy, h⟩
    cases e : dl ks y with
    | none => rw [e] at h; cases h
    | some k => rw [e] at h; cases h; exact ⟨k, hy, e, rfl⟩
  · rintro ⟨k, h1, h2, h3⟩
    obtain ⟨b, y⟩ := a
    have h3 : b = k := h3
    subst h3
    exact ⟨y, h1, by rw [show dl ks y = some k from h2]; rfl⟩
theorem kn_len (ks : List (Int × Nat)) (l : List Int) : (kn ks l).length ≤ l.length := List.length_filterMap_le _ _
/-- a test by its answer -/
theorem by_test {c : TT} {σ : St} {H : Hp} {R : Bool → Hp → Prop} (b : Bool) (h : ∀ R' : Bool → Hp → Prop, R' b H → c σ H R') (k : R b H) : c σ H R := h R k
/-- path(v, v): None, or a list -/
def spPath (C : Addr) : Sp := fun vs H Q _ => ∃ (g : Addr) (n : Nat) (ar : Arr) (v : Int), vs = [.ref g, .int v, .int v] ∧ GraphAt C H g n ar ∧ ar.length ≤ 11 ∧ n ≤ 8 ∧ v ∈ nodes n ∧ ArOk n ar ∧
  ∀ (H' : Hp) (d : Int → Option Nat), Same H H' → Dist ar v d → ((∀ y, (v, y) ∈ ar → d y = none) → Q .non H') ∧
    (∀ (y : Int) (q : Addr) (xs : List Int), (v, y) ∈ ar → (d y).isSome = true → H' q = some (.lst (xs.map V.int)) → Q (.ref q) H')
section
variable {P : Program} {w : World} {K : PySem.W.Frag} {mg : Str → Option Value} {base : Heap}
theorem ok_path {f fO fS C : Addr} {fd fdO fdS : FuncData} (F : Fun K "path" "Graph.path" sPath f fd) (T : GTxt K mg C) (GO : FnOk P w K mg base CX0 1 fO fdO ["self", "node"] (spFoll C)) (bO : Binds K fdO ["self", "node"] []) (mO : Meth K C "followers" fO)
    (GS : FnOk P w K mg base CX0 3 fS fdS ["self", "goal"] (spSteps C)) (bS : Binds K fdS ["self", "goal"] []) (mS : Meth K C "steps_to" fS) (zlen : mg "len" = none) (zmin : mg "min" = none) :
    FnOk P w K mg base CX0 4 f fd ["self", "start", "goal"] (spPath C) := by
  refine F.ok scPath (fun vs H Q E h => ?_) (fun cdv A outer s H vs Q E hr h => ?_)
  · obtain ⟨g, n, ar, v, rfl, _⟩ := h
    rfl
  · obtain ⟨g, n, ar, v, rfl, hg, hl, hn, hv, hO, k⟩ := h
    have hu := hu_of hr
    have hr1 : Room 1 _ := hr.mono (by decide)
    refine ⟨_, pss_cons (ps_set (i := 3) scPath.nd rfl (.inr rfl) (pe_meth (pv 0) T.cl mS GS hr bS .nil pass0 (pa_cons (pv 2) pa_nil)))
      (pss_cons (ps_set (i := 4) scPath.nd rfl (.inl rfl) (pe_lst (pa_cons (pv 1) pa_nil)))
      (pss_cons (ps_while PassesOwn.never (PW.pt (pw_or (pt_cmpR op_eq (pe_callB call_len_seq (by rfl) zlen b_len (pa_cons (pv 4) pa_nil)) pe_int (nomark _)) (pw_or1 (pt_cmpR op_ne (pe_ix ix_list (pv 4) (pe_un un_neg pe_int) (fun _ _ => rfl)) (pv 2) (nomark _)))))
        (pss_cons (ps_setLc (i := 5) (own := [("y", 6)]) (g := gName 6) (tt := tB (tDIn (tVar 6) (tVar 3))) (te := tTup (tCons (tDGet (tVar 3) (tVar 6)) (tCons (tVar 6) tNil))) (by rfl) scPath.nd rfl rfl (sw_true rfl rfl rfl (by decide +kernel))
            (pi_list (pe_meth (pv 0) T.cl mO GO hr1 bO .nil pass0 (pa_cons (pe_ix ix_list (pv 4) (pe_un un_neg pe_int) (fun _ _ => rfl)) pa_nil)))
            (blkOk_by (N := ["self", "start", "goal", "steps", "found", "known", "y"]) (sc := defScope sPath) (by decide +kernel)) (fun _ _ _ _ _ => pg_name (i := 6) scPath.nd rfl (Or.inl rfl))
            (fun _ _ _ _ _ => pts_one (pt_cmp (pc_din hu (pv 6) (pv 3)) (by rfl))) (fun _ _ _ _ _ => pe_tup (pa_cons (pe_dget hu (pv 3) (pv 6) (fun _ _ => rfl)) (pa_cons (pv 6) pa_nil))))
        (pss_cons (ps_if (pt_not (pt_truth (pv 5) (by intro _; rfl))) (pss_one (ps_ret pe_non)) pss_nil)
        (pss_one (ps_expr (pe_bm PySem.F.plainAttrs_list PySem.F.slot_list_append PySem.F.type_list_append mt_append (pv 4) (pa_cons (pe_ix ix_tup (pe_callB (cr_minP rfl hr.units) (by rfl) zmin b_min (pa_cons (pv 5) pa_nil)) pe_int (fun _ _ => rfl)) pa_nil)))))))
      (pss_one (ps_ret (pv 4))))), ?_⟩
    obtain ⟨dx, t, ps, hg1, hg2, hgA⟩ := id hg
    refine ⟨_, rfl, g, dx, _, rfl, hg1, gfs_no _ _ (by decide +kernel) (by decide +kernel), _, rfl, g, n, ar, v, rfl, hg, hl, hn, hv, hO, fun H1 D ks s1 hD0 hD1 Ds lo => ?_⟩
    refine ⟨_, rfl, (show 1 ≤ sizeLine by decide), fun fo hfo => ?_⟩
    have sf : Same H (L2.upd H1 fo (.lst [.int v])) := by walk_at "hS"
    have hDf : L2.upd H1 fo (.lst [.int v]) D = some (.dK (encK ks)) := by walk_at "hs"
    have fo0 : H fo = none := s1.free hfo
    have nDf : D ≠ fo := ne_of_none hD1 hfo
    refine ⟨fun m σ H' => ∃ (xs : List Int) (y : Int) (x5 x6 : Option V), σ = [some (.ref g), some (.int v), some (.int v), some (.ref D), some (.ref fo), x5, x6] ∧ Same H H' ∧ H' D = some (.dK (encK ks)) ∧ H' fo = some (.lst ((xs ++ [y]).map V.int)) ∧ xs.length + m ≤ n + 2 ∧
        ((xs = [] ∧ y = v ∧ m = n + 2) ∨ (xs ≠ [] ∧ (∃ z, (v, z) ∈ ar ∧ (dl ks z).isSome = true) ∧ ∃ j : Nat, dl ks y = some j ∧ m = j + 1)), ⟨n + 2, [], v, none, none, rfl, sf, hDf, upd_same, by simp, .inl ⟨rfl, rfl, rfl⟩⟩, ?_⟩
    rintro m σ H2 ⟨xs, y, x5, x6, rfl, sm, hD2, hf2, hlen, hst⟩
    refine by_test (decide (xs = [] ∨ y ≠ v)) (fun R hR => ?_) ?_
    · refine ⟨_, rfl, fo, _, rfl, .inl (SqL.of hf2), rfl, _, rfl, ?_⟩
      have e1 : decide (V.int (((xs ++ [y]).map V.int).length : Nat) = V.int 1) = decide (xs = []) := by
        rw [List.length_map, List.length_append, List.length_singleton]
        cases xs with
        | nil => rfl
        | cons a r =>
          have a1 : ¬ (V.int (((a :: r).length + 1 : Nat) : Int) = V.int 1) := fun q => by
            have := V.int.inj q
            simp at this
            omega
          rw [decide_eq_false a1]
          simp
      rw [e1]
      refine ite2 (fun z => ?_) (fun z => ?_)
      · have z : xs = [] := of_decide_eq_true z
        rw [decide_eq_true (.inl z)] at hR
        exact hR
      · have z : xs ≠ [] := by simpa using z
        refine ⟨_, rfl, 1, rfl, fo, _, _, _, rfl, rfl, SqL.of hf2, (by rw [List.map_append]; exact atI_last _ _), _, rfl, rfl, _, rfl, ?_⟩
        have e2 : (!decide (V.int y = V.int v)) = decide (xs = [] ∨ y ≠ v) := by
          by_cases q : y = v
          · subst q; simp [z]
          · simp [q]
        rw [e2]
        exact hR
    have g2A := hg.same sm
    refine ite2 (fun z => ?_) (fun z => ?_)
    · have z : xs = [] ∨ y ≠ v := of_decide_eq_true z
      obtain ⟨dx2, t2, ps2, hg2', _, _⟩ := id g2A
      refine ⟨_, fun _ _ h => h, ?_⟩
      refine ⟨_, rfl, g, dx2, _, rfl, hg2', gfs_no _ _ (by decide +kernel) (by decide +kernel), _, rfl, 1, rfl, fo, _, _, _, rfl, rfl, SqL.of hf2, (by rw [List.map_append]; exact atI_last _ _), g, n, ar, y, rfl, g2A, hl, fun H3 r s3 hr3 h3 => ?_⟩
      refine ⟨r, rfl, ⟨_, SqL.of h3⟩, fun L hL => ?_⟩
      have flen := foll_len ar y
      refine lc_list (K := K) (a := r) (xs := (foll ar y).map V.int) (fun i H' => Same H3 H' ∧ ∃ ps : List Addr, H' L = some (.lst (ps.map V.ref)) ∧ Arrs H' ps (kn ks ((foll ar y).take i))) ⟨same_new hL, [], upd_same, .nil⟩ (fun i H' _ ⟨sm', _⟩ => SqL.of (sm' _ _ h3)) ?_ ?_
      · rintro i x H' hi ⟨sm', ps, hk, hA⟩
        obtain ⟨hi2, e⟩ := List.getElem?_eq_some_iff.mp hi
        rw [List.getElem_map] at e
        rw [List.length_map] at hi2
        subst e
        have et : kn ks ((foll ar y).take (i + 1)) = kn ks ((foll ar y).take i) ++ (match dl ks (foll ar y)[i] with
            | some k => [((k : Int), (foll ar y)[i])]
            | none => []) := by
          rw [List.take_add_one, List.getElem?_eq_getElem hi2]
          exact kn_snoc ks _ _
        have lps : ps.length = (kn ks ((foll ar y).take i)).length := hA.length
        have hplen : ps.length ≤ 11 := by
          have := kn_len ks ((foll ar y).take i)
          rw [List.length_take] at this
          omega
        have hD' : H' D = some (.dK (encK ks)) := sm' _ _ (s3 _ _ hD2)
        refine ⟨rfl, _, rfl, _, rfl, D, _, rfl, DGet.k (k := Sum.inl (foll ar y)[i]) hD', _, rfl, ?_⟩
        rw [valV_enc, Option.isSome_map]
        cases ed : dl ks (foll ar y)[i] with
        | none =>
          refine iteF ⟨sm', ps, hk, ?_⟩
          rw [et, ed, List.append_nil]
          exact hA
        | some j =>
          refine iteT ⟨_, rfl, _, rfl, D, _, rfl, DGet.k (k := Sum.inl (foll ar y)[i]) hD' |> fun z => (by rw [valV_enc, ed] at z; exact z), _, rfl, (show 2 ≤ sizeLine by decide), fun q hq => ?_⟩
          have nqL : q ≠ L := fun e => by rw [e, hk] at hq; cases hq
          refine ⟨_, upd_keep hq hk, by rw [List.length_map]; exact small1000 (by omega), same_mut (same_upd sm' hq) hL, ps ++ [q], by rw [upd_same, List.map_append]; rfl, ?_⟩
          rw [et, ed]
          have A1 : Arrs (L2.upd (L2.upd H' q (.tup [.int (j : Int), .int (foll ar y)[i]])) L (.lst (ps.map V.ref ++ [.ref q]))) ps (kn ks ((foll ar y).take i)) := hA.same fun z xs e => by
            have : z ≠ L := fun z' => by rw [z', hk] at e; cases e
            rw [upd_ne this]; exact upd_keep hq e
          exact Paired.snoc A1 (by rw [upd_ne nqL]; exact upd_same)
      · rintro H4 ⟨sm4, ps, hk, hA⟩
        rw [List.length_map, List.take_length] at hA
        have s24 : Same H2 H4 := s3.trans sm4
        have lps : ps.length = (kn ks (foll ar y)).length := hA.length
        refine ⟨_, rfl, _, .inl ⟨_, SqL.of hk, rfl⟩, ?_⟩
        by_cases hp : ps = []
        · -- none is known
          rw [hp]
          refine iteT ?_
          have kn0 : kn ks (foll ar y) = [] := List.length_eq_zero_iff.mp (by rw [← lps, hp]; rfl)
          rcases hst with ⟨_, rfl, _⟩ | ⟨hx, _, j, ej, _⟩
          · refine (k H4 (dl ks) (sm.trans s24) Ds).1 fun z hz => ?_
            cases e : dl ks z with
            | none => rfl
            | some j =>
              have : ((j : Int), z) ∈ kn ks (foll ar y) := mem_kn.mpr ⟨j, mem_foll.mpr hz, e, rfl⟩
              rw [kn0] at this
              cases this
          · exfalso
            rcases z with z | z
            · exact hx z
            · cases j with
              | zero => exact z (Ds.zero y ej)
              | succ j =>
                obtain ⟨u, h1, h2⟩ := Ds.step y j ej
                have : ((j : Int), u) ∈ kn ks (foll ar y) := mem_kn.mpr ⟨j, mem_foll.mpr h1, h2, rfl⟩
                rw [kn0] at this
                cases this
        · have hpE : (!(ps.map V.ref).isEmpty) = true := by
            cases ps with
            | nil => exact absurd rfl hp
            | cons a r => rfl
          rw [hpE]
          refine iteF ?_
          have hpos : 0 < (kn ks (foll ar y)).length := by rw [← lps]; exact List.length_pos_iff.mpr hp
          have hf4 := s24 _ _ hf2
          refine ⟨_, rfl, .inl ⟨rfl, _, SqL.of hf4⟩, _, rfl, L, ps, _, rfl, SqL.of hk, hA, hpos, fun i p e hi he hmin => ?_⟩
          obtain ⟨e', he', ht⟩ := hA.at hi
          rw [he] at he'
          cases he'
          obtain ⟨j, j1, j2, j3⟩ := mem_kn.mp (List.mem_of_getElem? he)
          refine ⟨p, _, _, _, rfl, rfl, SqT.of ht, at_of (j := 1) rfl rfl, fo, _, _, rfl, rfl, hf4, ?_, ?_⟩
          · rw [List.length_map, List.length_append, List.length_singleton]
            exact small1000 (by omega)
          have hfin : Same H (L2.upd H4 fo (.lst ((xs ++ [y]).map V.int ++ [.int e.2]))) := same_mut (sm.trans s24) fo0
          have jn := lo e.2 j j2
          have e1 : (xs ++ [y]).map V.int ++ [V.int e.2] = ((xs ++ [y]) ++ [e.2]).map V.int := by simp
          have less : j + 1 < m := by
            rcases hst with ⟨_, _, hm⟩ | ⟨hx, _, j0, ej, hm⟩
            · omega
            · have hyv : y ≠ v := z.resolve_left hx
              cases j0 with
              | zero => exact absurd (Ds.zero y ej) hyv
              | succ j0 =>
                obtain ⟨u, h1, h2⟩ := Ds.step y j0 ej
                have hu' := hmin _ (mem_kn.mpr ⟨j0, mem_foll.mpr h1, h2, rfl⟩ : ((j0 : Int), u) ∈ kn ks (foll ar y))
                have hu' : e.1 ≤ (j0 : Int) := hu'
                omega
          refine ⟨j + 1, less, xs ++ [y], e.2, _, _, rfl, hfin, by rw [upd_ne nDf]; exact s24 _ _ hD2, by rw [upd_same, e1], ?_, .inr ⟨by simp, ?_, j, j2, rfl⟩⟩
          · rw [List.length_append, List.length_singleton]
            omega
          · rcases hst with ⟨_, rfl, _⟩ | ⟨_, hz, _⟩
            · exact ⟨e.2, mem_foll.mp j1, by rw [j2]; rfl⟩
            · exact hz
    · have z : xs ≠ [] ∧ y = v := by
        have : ¬ (xs = [] ∨ y ≠ v) := by simpa using z
        exact ⟨fun e => this (.inl e), Classical.byContradiction fun e => this (.inr e)⟩
      rcases hst with ⟨hx, _⟩ | ⟨_, ⟨u, h1, h2⟩, _⟩
      · exact absurd hx z.1
      · exact ⟨_, rfl, (k H2 (dl ks) sm Ds).2 u fo _ h1 h2 hf2⟩
end
end K65

namespace K65
open PySem L2
local macro_rules | `(tactic| walk_at "hS") => `(tactic| with_reducible repeat' first | exact Same.refl _ | assumption | refine same_upd ?_ ?_)
def spRing (C : Addr) : Sp := fun vs H Q _ => ∃ (g : Addr) (n : Nat) (ar : Arr), vs = [.ref g] ∧ GraphAt C H g n ar ∧ ar.length ≤ 11 ∧ n ≤ 8 ∧ ArOk n ar ∧
  ∀ H' : Hp, Same H H' → (ext n ar n [] ≠ [] → Q .non H') ∧ (ext n ar n [] = [] → ∀ (q : Addr) (zs : List V), H' q = some (.lst zs) → Q (.ref q) H')
/-- the best ring so far -/
def Best (ar : Arr) (i : Nat) (b : V) (H : Hp) : Prop := (b = .non ∧ ∀ v : Int, 1 ≤ v → v ≤ i → ∃ d, Dist ar v d ∧ ∀ y, (v, y) ∈ ar → d y = none) ∨
  (∃ (p : Addr) (zs : List V), b = .ref p ∧ H p = some (.lst zs) ∧ ∃ (v y : Int) (d : Int → Option Nat), Dist ar v d ∧ (v, y) ∈ ar ∧ (d y).isSome = true)
section
variable {P : Program} {w : World} {K : PySem.W.Frag} {mg : Str → Option Value} {base : Heap}
theorem ok_ring {f fP C : Addr} {fd fdP : FuncData} (F : Fun K "ring" "Graph.ring" sRing f fd) (T : GTxt K mg C) (GP : FnOk P w K mg base CX0 4 fP fdP ["self", "start", "goal"] (spPath C)) (bP : Binds K fdP ["self", "start", "goal"] []) (mP : Meth K C "path" fP) (zlen : mg "len" = none) (zrange : mg "range" = none) :
    FnOk P w K mg base CX0 5 f fd ["self"] (spRing C) := by
  refine F.ok scRing (fun vs H Q E h => ?_) (fun cdv A outer s H vs Q E hr h => ?_)
  · obtain ⟨g, n, ar, rfl, _⟩ := h
    rfl
  · obtain ⟨g, n, ar, rfl, hg, hl, hn, hO, k⟩ := h
    refine ⟨_, pss_cons (ps_set (i := 1) scRing.nd rfl (.inl rfl) pe_non)
      (pss_cons (ps_for PassesOwn.never rfl (pi_range2 (by rfl) zrange (pa_cons pe_int (pa_cons (pe_op op_add (pe_fld (pv 0) rfl) pe_int) pa_nil))) (pg_name (i := 2) scRing.nd rfl (.inl rfl))
        (pss_cons (ps_set (i := 3) scRing.nd rfl (.inl rfl) (pe_meth (pv 0) T.cl mP GP hr bP .nil pass0 (pa_cons (pv 2) (pa_cons (pv 2) pa_nil))))
        (pss_one (ps_if (PW.pt (pw_and (pt_cmpR op_notN (pv 3) pe_non (nomark _)) (pw_and1 (PW.pt (pw_or (pt_cmpR op_isN (pv 1) pe_non (nomark _)) (pw_or1 (pt_cmpR op_lt (pe_op op_sub (pe_callB call_len_seq (by rfl) zlen b_len (pa_cons (pv 3) pa_nil)) pe_int) (pe_callB call_len_seq (by rfl) zlen b_len (pa_cons (pv 1) pa_nil)) (nomark _))))))))
          (pss_one (ps_set (i := 1) scRing.nd rfl (.inl rfl) (pe_slice sl_list (pv 3) po_none (po_some (pe_un un_neg pe_int))))) pss_nil))))
      (pss_one (ps_ret (pv 1)))), ?_⟩
    obtain ⟨dx, t, ps, hg1, hg2, hgA⟩ := id hg
    have hA' : ∀ x y, (x, y) ∈ ar → (1 ≤ x ∧ x ≤ n) ∧ (1 ≤ y ∧ y ≤ n) := fun x y h => ⟨(hO _ h).2.1, (hO _ h).2.2⟩
    refine ⟨_, rfl, g, C, dx, _, _, rfl, hg1, T.cl, T.nS, gfs_size _ _, _, _, rfl, rfl, _, _, rfl, ⟨by decide, by decide, by omega, by omega⟩, for_range (lo := 1) (n := ((n : Int) + 1 - 1).toNat) (fun i σ H' => i ≤ n ∧ ∃ (b : V) (x2 x3 : Option V), σ = [some (.ref g), some b, x2, x3] ∧ Same H H' ∧ Best ar i b H')
      ⟨Nat.zero_le _, .non, none, none, rfl, Same.refl _, .inl ⟨rfl, fun v h1 h2 => by omega⟩⟩ ?_ ?_⟩
    · rintro i σ H1 hi ⟨_, b, x2, x3, rfl, sm, hb⟩
      have hi : i < n := by omega
      have gA := hg.same sm
      obtain ⟨dx1, t1, ps1, hg1', _, _⟩ := id gA
      have hvn : 1 + (i : Int) ∈ nodes n := mem_nodes.mpr (by omega)
      refine ⟨_, rfl, g, dx1, _, rfl, hg1', gfs_no _ _ (by decide +kernel) (by decide +kernel), _, rfl, _, rfl, g, n, ar, 1 + (i : Int), rfl, gA, hl, hn, hvn, hO, fun H2 d s2 D => ⟨fun hno => ?_, fun y q xs hy hd hq => ?_⟩⟩
      · -- None
        refine ⟨_, rfl, rfl, _, rfl, ?_⟩
        refine iteF (iteF ⟨by omega, b, _, _, rfl, sm.trans s2, ?_⟩)
        rcases hb with ⟨e, h⟩ | ⟨p, zs, e, hp, r⟩
        · refine .inl ⟨e, fun v h1 h2 => ?_⟩
          by_cases q : v ≤ i
          · exact h v h1 q
          · rw [show v = 1 + (i : Int) by omega]
            exact ⟨d, D, hno⟩
        · exact .inr ⟨p, zs, e, s2 _ _ hp, r⟩
      · -- a list
        refine ⟨_, rfl, rfl, _, rfl, ?_⟩
        refine iteT ⟨_, rfl, rfl, _, rfl, ?_⟩
        have set : ∀ (bv : V), tAsg (tSl (rSlL K) (tVar 3) tNoPart (tPart (tUn (rU fun i => .int (-i)) (tC (.int 1))))) (gName 1) { nx := fun σ H' => i + 1 ≤ n ∧ ∃ (b : V) (x2 x3 : Option V), σ = [some (.ref g), some b, x2, x3] ∧ Same H H' ∧ Best ar (i + 1) b H', rt := Q }
            [some (.ref g), some bv, some (.int (1 + (i : Int))), some (.ref q)] H2 := fun bv => by
          refine ⟨_, rfl, 1, rfl, _, rfl, q, _, rfl, SqL.of hq, fun p hp => ?_⟩
          exact ⟨by omega, _, _, _, rfl, same_upd (sm.trans s2) hp, .inr ⟨p, _, rfl, upd_same, _, y, d, D, hy, hd⟩⟩
        rcases hb with ⟨e, h⟩ | ⟨p, zs, e, hp, r⟩
        · subst e
          exact iteT (iteT (set .non))
        · subst e
          refine iteF ⟨_, rfl, q, _, rfl, .inl (SqL.of hq), _, _, rfl, rfl, _, rfl, p, _, rfl, .inl (SqL.of (s2 _ _ hp)), _, _, rfl, rfl, _, rfl, ite2 (fun _ => set _) (fun _ => ?_)⟩
          exact ⟨by omega, _, _, _, rfl, sm.trans s2, .inr ⟨p, zs, rfl, s2 _ _ hp, r⟩⟩
    · rintro σ H1 ⟨_, b, x2, x3, rfl, sm, hb⟩
      rw [show ((n : Int) + 1 - 1).toNat = n by omega] at hb
      refine ⟨_, rfl, ?_⟩
      rcases hb with ⟨e, h⟩ | ⟨p, zs, e, hp, v, y, d, D, hy, hd⟩
      · subst e
        refine (k H1 sm).1 fun z => ?_
        have hd : ∀ v : Int, ∃ d : Int → Option Nat, 1 ≤ v → v ≤ n → Dist ar v d ∧ ∀ y, (v, y) ∈ ar → d y = none := fun v => by
          by_cases c : 1 ≤ v ∧ v ≤ n
          · obtain ⟨d, hd⟩ := h v c.1 c.2
            exact ⟨d, fun _ _ => hd⟩
          · exact ⟨fun _ => none, fun c1 c2 => absurd ⟨c1, c2⟩ c⟩
        let d : Int → Int → Option Nat := fun v => Classical.choose (hd v)
        have hd' : ∀ v : Int, 1 ≤ v → v ≤ n → Dist ar v (d v) ∧ ∀ y, (v, y) ∈ ar → d v y = none := fun v => Classical.choose_spec (hd v)
        obtain ⟨v, y, hv, h1, h2⟩ := some_ring z hA' (d := d) fun v c1 c2 => (hd' v c1 c2).1
        rw [(hd' v hv.1 hv.2).2 y h1] at h2
        cases h2
      · subst e
        refine (k H1 sm).2 (Classical.byContradiction fun z => ?_) p zs hp
        rw [no_ring z hA' D y hy] at hd
        cases hd
end
end K65

/-! Four rules: {t: v} with a tuple key; d.items() walked where the keys are tuples; list(d.values()) there; sorted of a tuple. -/
namespace K65
open PySem L2
open PySem.Spec PyProof.Rows
section
variable {X : Cx}
/-- {t: v}, t a tuple of ints and texts -/
def tDispT (tk tv : TE) : TE := fun σ H Q => ∀ p, H p = none → tk σ (L2.upd H p (.dT [])) fun x H1 => tv σ H1 fun y H2 => ∃ (b : Addr) (ks : List Key), x = .ref b ∧ H2 p = some (.dT []) ∧ H2 b = some (.tup (ks.map kV)) ∧ Q (.ref p) (L2.upd H2 p (.dT [(ks, y)]))
theorem pe_dispT {pos : Pos} {k v : Expr} {tk tv : TE} (hu : X.A.units + 1 < cLine) (hk : PE X k tk) (hv : PE X v tv) : PE X (.Dict [some k] [v] pos) (tDispT tk tv) := by
  refine ⟨fun pins s σ H Q I q => ?_⟩
  have hn := I.hok.fresh (Nat.le_refl s.heap.objs.size)
  have I1 := I.laid (a := s.heap.objs.size) (o := .dT []) (h' := s.heap.push { cls := .type "dict", data := .dict #[] }) (t' := s.toks) (fun _ _ q => Heap.get?_push_of_some _ q) (Nat.le_refl _) (dt_empty s.heap I.big)
  have hz := zip_pairTrees [some k] [v] X.env pos (by rfl) (by rfl)
  have hlen := pairTrees_length [some k] [v] X.env pos (by rfl) (by rfl)
  rw [arm_eval_Dict, hz, dictDisplay_pairs _ (fun z => by rw [z] at hlen; cases hlen) (by rw [hlen]; show 1 < 17; decide)]
  refine wpAny_bind (wpAny_standAt (wpAny_bind (wpAny_subDictH (knd := tupleKind (mixKind X.prog X.w)) (Q := fun d s' => wpAny (model X.prog X.w) X.A (pure (Value.ref d)) (EP X pins σ Q) X.xe s') (show X.A.units < cLine by omega) (by rw [hlen]; show 1 ≤ 15; decide) ?_)))
  refine pairTrees_cons_walk (thn (hk.run pins _ σ _ _ I1 (q _ hn)) fun u s1 ⟨x, H1, I1, rx, q1⟩ => thn (hv.run pins s1 σ H1 _ I1 q1) fun r s2 ⟨y, H2, I2, ry, q2⟩ => pairTrees_nil_walk ?_)
  obtain ⟨b, ks, rfl, hp, hb, q2⟩ := q2
  cases rx
  obtain ⟨z, hd, xs, rel, dd⟩ := dt_of I2.hok hp
  cases rel
  refine ⟨[(ks, b, r)], ⟨rfl, rfl, key_of I2.hok hb, trivial⟩, dd, fun h' tk dd' hs => wpAny_pure ?_⟩
  obtain ⟨o, es, ep, ho, c1, c2, c3, _, c5⟩ := dd'
  refine ⟨.ref s.heap.objs.size, _, d_write (t' := tk) (ob := .dT [(ks, y)]) I2 (by rw [hp]; exact True.intro) hs ⟨o, ho⟩ ⟨by show 1 ≤ sizeLine; decide, hd, [(ks, b, r)], .cons ⟨rfl, ?_, ry⟩ .nil, o, es, ep, ho, c1, c2, c3, c5⟩, rfl, q2⟩
  rw [upd_ne (ne_of hb hp (fun z => nomatch z))]
  exact hb
/-! ### d.items(), the keys tuples -/
theorem frz_at {pins : List (Addr × Obj)} {σ : L2.St} {H : Hp} {s : Shared} {d : Addr} {o : Obj} {kvs : List (List Key × V)} (I : Inv X pins σ H s) (h : H d = some (.frz o (.dT kvs))) :
    (d == sysModules) = false ∧ ∃ (es : Array DictEntry) (ep : Nat), s.heap.get? d = some o ∧ o.ExactDict ∧ o.data = .dict es ep ∧ es.size = kvs.length ∧
      ∀ (i : Nat) (k : List Key) (v : V), kvs[i]? = some (k, v) → ∃ (en : DictEntry) (q : Addr), es[i]? = some en ∧ en.key = .ref q ∧ H q = some (.tup (k.map kV)) ∧ RelV v en.val := by
  obtain ⟨hd, _, hs, xs, pr, od, es, ep, hod, hx, hdt, he, _⟩ := I.hok d _ h
  rw [hd] at hod
  cases hod
  have l1 : es.size = xs.length := size_of_entries he
  have l2 : kvs.length = xs.length := Paired.length pr
  refine ⟨hs, es, ep, hd, hx, hdt, by omega, fun i k v e => ?_⟩
  obtain ⟨b, hb, e1, e2, e3⟩ := paired_get pr e
  have q := entry_at he i
  rw [hb] at q
  exact ⟨_, b.2.1, q, rfl, e2, e3⟩
/-- the pairs, each a new tuple of the key's own tuple and the value -/
def ItT (d : Addr) (o : Obj) (kvs : List (List Key × V)) : It :=
  ⟨fun i H => H d = some (.frz o (.dT kvs)) ∧ i < kvs.length, fun i H x H' => ∃ (T q : Addr) (k : List Key) (v : V), kvs[i]? = some (k, v) ∧ x = .ref T ∧ H T = none ∧ H q = some (.tup (k.map kV)) ∧ H' = L2.upd H T (.tup [.ref q, v]), fun i H => H d = some (.frz o (.dT kvs)) ∧ kvs.length ≤ i⟩
theorem turn_tups {P : Program} {w : World} {K : PySem.W.Frag} {d : Addr} {o : Obj} {es : Array DictEntry} {ep : Nat} {kvs : List (List Key × V)} {elts : List Expr} {kk : Nat} {tpos : Pos} (it : Addr) (hod : o.data = .dict es ep) :
    Turn P w K (.Tuple elts kk tpos) (ItT d o kvs) [it] it (fun i h => ∃ ok ov, IsItemIter h it d i kvs.length ep ok ov) where
  mem := by simp
  obj := fun i h ⟨_, _, e⟩ b hb => by
    rw [show b = it by simpa using hb]
    exact ⟨_, e, fun v z => nomatch z⟩
  keep := fun i h h' ⟨ok, ov, e⟩ k => ⟨ok, ov, k it (by simp) _ e⟩
  item := by
    intro X hP hw hK hc i pins s σ H E I hf st hg
    subst hP hw hK
    obtain ⟨hd, hi⟩ := hg
    obtain ⟨hs, es', ep', hgd, hx, hdt, hsz, ent⟩ := frz_at I hd
    obtain ⟨rfl, rfl⟩ := dict_ep hod hdt
    obtain ⟨⟨k, v⟩, hkv⟩ : ∃ p, kvs[i]? = some p := ⟨kvs[i], List.getElem?_eq_getElem hi⟩
    obtain ⟨en, q, hen, hkey, hq, ru⟩ := ent i k v hkv
    obtain ⟨ok, ov, he⟩ := st
    rw [← hsz] at he
    have hlt : it < s.heap.objs.size := Heap.lt_size he
    have hi' : i < es'.size := by omega
    have ee : es'[i] = en := by
      rw [Array.getElem?_eq_getElem hi'] at hen
      exact Option.some.inj hen
    refine DT.nextI he ⟨o, hgd, hx, hdt⟩ hi' fun h' ho hT _ hk => ?_
    refine ⟨_, rfl, wpAny_letOwnedTupleGo_items (s := { s with heap := h' }) ho fun h2 he' sb => ?_⟩
    have hT2 : h2.get? s.heap.objs.size = some { cls := .type "tuple", data := .seq #[es'[i].key, es'[i].val] } := (sb.2 _ (Nat.ne_of_gt hlt)).trans hT
    have new : ObjOk X.prog X.w (L2.upd H s.heap.objs.size (.tup [.ref q, v])) h2 s.heap.objs.size (.tup [.ref q, v]) :=
      ⟨by show 2 ≤ sizeLine; decide, [es'[i].key, es'[i].val], .cons (by rw [ee]; exact hkey) (.cons (by rw [ee]; exact ru) .nil), ⟨_, hT2, rfl, _, rfl⟩⟩
    have I1 : Inv X pins σ (L2.upd H s.heap.objs.size (.tup [.ref q, v])) { s with heap := h2 } :=
      I.turnedNew (t' := s.toks) (ch := [it]) (fun c oc hc e => (sb.2 c (by simpa using hc)).trans (hk c oc (by simpa using hc) e)) hf (Nat.le_refl _) new
    refine ⟨.ref s.heap.objs.size, _, I1, rfl, ⟨_, q, k, v, hkv, rfl, I.hok.fresh (Nat.le_refl _), hq, rfl⟩, ⟨_, _, by rw [← hsz]; exact he'⟩, fun b hb => ?_⟩
    rw [show b = it by simpa using hb, upd_ne (Nat.ne_of_lt hlt)]
    exact (hf it (by simp)).1
  done := by
    intro X hP hw hK hc i pins s σ H E I hf st hg
    subst hP hw hK
    obtain ⟨hd, hi⟩ := hg
    obtain ⟨f0, f1, f2, f3, f4, f5⟩ := hf it (by simp)
    obtain ⟨hs, es', ep', hgd, hx, hdt, hsz, ent⟩ := frz_at I hd
    obtain ⟨rfl, rfl⟩ := dict_ep hod hdt
    obtain ⟨ok, ov, he⟩ := st
    rw [← hsz] at he
    exact DT.endI (I.ok.hd hc) he ⟨o, hgd, hx, hdt⟩ (by omega) fun h' eb => ⟨rfl, I.turned (t' := s.toks) (fun b ob hb e => eb b ob hb e) f0 f1 f3 f4 f5⟩
  self := fun A i s Q E ⟨_, _, e⟩ h => PySem.W.kcp_self e h
def iItemsT (td : TE) : TI := fun σ H R => td σ H fun x H1 => ∃ d o kvs, x = .ref d ∧ H1 d = some (.frz o (.dT kvs)) ∧ R (ItT d o kvs) H1
theorem pi_itemsT {e : Expr} {td : TE} {apos cpos : Pos} {elts : List Expr} {kk : Nat} {tpos : Pos} (he : PE X e td) (hbase : attributeBase e "items" X.env (eval e X.env) = eval e X.env := by rfl) (hline : (apos.endLine == cpos.line) = true := by rfl) :
    PI X (.Tuple elts kk tpos) (.Call (.Attribute e "items" apos) [] [] cpos) (iItemsT td) := by
  refine ⟨fun pins s σ H R I h => ?_⟩
  refine wpAny_Call_method (T := "dict") (id := "dict.items") hbase rfl hline PySem.F.plainAttrs_dict PySem.F.slot_dict_items PySem.F.type_dict_items (thn (he.run pins s σ H _ I h) fun u s1 ⟨x, H1, I1, rx, d, o, kvs, ex, hd, q⟩ => ?_)
  subst ex
  obtain rfl : u = Value.ref d := rx
  obtain ⟨hs, es, ep, hgd, hx, hdt, hsz, ent⟩ := frz_at I1 hd
  have raw : DT.Raw s1.heap d es ep := ⟨o, hgd, hx, hdt⟩
  let view : Obj := { cls := .type "dict_items", data := .fields #[.ref d] }
  have I2 := I1.kept (h' := s1.heap.push view) (t' := s1.toks) fun b ob q => Heap.get?_push_of_some _ q
  have fin : wpAny (model X.prog X.w) X.A (pyIter (.ref s1.heap.objs.size)) (PIE X pins σ (.Tuple elts kk tpos) R) X.xe { s1 with heap := s1.heap.push view } := by
    refine DT.iterI (d := d) ⟨_, Heap.get?_push_size _ rfl, rfl, rfl⟩ (raw.push _) (pi_one (tk := s1.toks) I2 _ (turn_tups _ hdt) ⟨.none, .none, ?_⟩ q)
    rw [← hsz]
    exact Heap.get?_push_size _ rfl
  refine ⟨⟨o, hgd, hx.1⟩, fun a e => ?_, ?_⟩
  · cases e
    exact ⟨o, hgd, hx.2.1⟩
  · show wpAny _ _ (callWith cpos (.builtin "dict.items") [.ref d] [] []) _ X.xe s1
    exact method_meetsIn PySem.F.slot_dict_items PySem.F.entry_dict_items rfl (PySem.evalArgs_none ⟨rfl, ⟨o, hgd, hx.1⟩, PySem.F.args_dict_items_1 _, _, DT.meetsItems (es := es) (ep := ep) hs, raw, fin⟩)
/-! ### list(d.values()) -/
def tListVals (td : TE) : TE := fun σ H Q => td σ H fun x H1 => ∃ (d : Addr) (kvs : List (List Key × V)), x = .ref d ∧ H1 d = some (.dT kvs) ∧ ∀ p, H1 p = none → Q (.ref p) (L2.upd H1 p (.lst (kvs.map (·.2))))
theorem vals_pick : ∀ {xs : List V} {us : List Value}, xs.length = us.length → (∀ (j : Nat) (x : V), xs[j]? = some x → ∃ u, us[j]? = some u ∧ RelV x u) → Vals xs us
  | [], [], _, _ => .nil
  | [], _ :: _, h, _ => nomatch h
  | _ :: _, [], h, _ => nomatch h
  | x :: xs, u :: us, h, k => by
    obtain ⟨v, e, r⟩ := k 0 x rfl
    cases e
    exact .cons r (vals_pick (by simpa using h) fun j y hy => k (j + 1) y (by simpa using hy))
theorem pe_listVals {e : Expr} {td : TE} {p pos apos cpos : Pos} (hc : X.calm = true) (he : PE X e td) (hg : Gl X "list") (hm : X.mg "list" = none) (hbase : attributeBase e "values" X.env (eval e X.env) = eval e X.env := by rfl) (hline : (apos.endLine == cpos.line) = true := by rfl)
    (hs : starEach [.Call (.Attribute e "values" apos) [] [] cpos] X.env = (false, eval (.Call (.Attribute e "values" apos) [] [] cpos) X.env) :: starEach [] X.env := by rfl) :
    PE X (.Call (.Name "list" p) [.Call (.Attribute e "values" apos) [] [] cpos] [] pos) (tListVals td) := by
  refine ⟨fun pins s σ H Q I hq => ?_⟩
  refine wpAny_Call_Name_kw (ld_blt I hg hm b_list ?_)
  refine PyProof.Rows.callWith_type1 ?_ hs rfl
  rw [hs]
  refine Calls.spliced_cons ?_
  refine wpAny_Call_method (T := "dict") (id := "dict.values") hbase rfl hline PySem.F.plainAttrs_dict PySem.F.slot_dict_values PySem.F.type_dict_values (thn (he.run pins s σ H _ I hq) fun u s1 ⟨x, H1, I1, rx, d, kvs, ex, hd, q⟩ => ?_)
  subst ex
  obtain rfl : u = Value.ref d := rx
  obtain ⟨hz, hs0, xs, pr, o, es, ep, ho, hx, hdt, hes, _⟩ := (show ObjOk X.prog X.w H1 s1.heap d (.dT kvs) from I1.hok d _ hd)
  have l1 : es.size = xs.length := size_of_entries hes
  have l2 : kvs.length = xs.length := Paired.length pr
  have raw : s1.heap.DictRaw d es ep := ⟨o, ho, hx, hdt⟩
  let view : Obj := { cls := .type "dict_values", data := .fields #[.ref d] }
  have I2 := I1.kept (h' := s1.heap.push view) (t' := s1.toks) fun b ob q => Heap.get?_push_of_some _ q
  refine ⟨⟨o, ho, hx.1⟩, fun a z => ?_, ?_⟩
  · cases z
    exact ⟨o, ho, hx.2.1⟩
  show wpAny _ _ (callWith cpos (.builtin "dict.values") [.ref d] [] []) _ X.xe s1
  refine method_meetsIn PySem.F.slot_dict_values PySem.F.entry_dict_values rfl (PySem.evalArgs_none ⟨rfl, ⟨o, ho, hx.1⟩, PySem.F.args_dict_values_1 _, _, meets_dict_values_raw d hs0, ⟨es, ep, raw⟩, ?_⟩)
  refine Calls.spliced_nil ?_
  refine PySem.W.kdl_call (KdlSrc.rawValues (r := s1.heap.objs.size) (d := d) (es := es) (ep := ep)) (I1.ok.hd hc) ⟨⟨_, Heap.get?_push_size _ rfl, rfl, rfl⟩, raw.push _⟩ (by omega) fun h' tk acc c kp hS it => ?_
  have hn := I2.hok.fresh (Nat.le_refl _)
  refine ⟨.ref _, _, I2.laid (t' := tk) (o := .lst (kvs.map (·.2))) kp (Nat.le_refl _) ⟨by rw [List.length_map]; exact hz, acc.toList, c, ?_, by rw [Array.toArray_toList]; exact hS⟩, rfl, q _ hn⟩
  have la : acc.toList.length = es.size := by rw [Array.length_toList, it.1]
  refine vals_pick (by rw [List.length_map, la]; omega) fun j y hy => ?_
  rw [List.getElem?_map] at hy
  cases e : kvs[j]? with
  | none => rw [e] at hy; cases hy
  | some kv =>
    rw [e] at hy
    cases hy
    obtain ⟨b, hb, _, _, e3⟩ := paired_get pr e
    have q1 := entry_at hes j
    rw [hb] at q1
    have hj : j < acc.toList.length := by
      rw [la]
      exact (Array.getElem?_eq_some_iff.mp q1).1
    refine ⟨acc.toList[j], List.getElem?_eq_getElem hj, ?_⟩
    obtain ⟨hi, ev⟩ := it.2 j acc.toList[j] (by rw [← Array.getElem?_toList]; exact List.getElem?_eq_getElem hj)
    rw [Array.getElem?_eq_getElem hi] at q1
    rw [ev, Option.some.inj q1]
    exact e3
end
end K65

/-! sorted of a tuple of ints -/
namespace K65
open PySem L2
open PySem.Spec PyProof.Rows
section
variable {prog : Program} {w : World} {A : Around} {E : Value → Shared → Prop} {s : Shared}
theorem tup_collected {t : Addr} {us : List Value} {Q : List Value → Shared → Prop} (ht : IsTup s.heap t us.toArray) (hz : us.length ≤ sizeLine)
    (k : Q us { s with heap := (s.heap.push (seqObj "list" #[] 0)).update s.heap.objs.size (Obj.mapSeq (· ++ us.toArray)) }) : wpAny (model prog w) A (collect (.ref t)) Q E s := by
  obtain ⟨ob, hob, hcls, cnt, hdat⟩ := id ht
  have hob' : (s.heap.push (seqObj "list" #[] 0)).get? t = some ob := Heap.get?_push_of_some _ hob
  have new : (s.heap.push (seqObj "list" #[] 0)).get? s.heap.objs.size = some (seqObj "list" #[] 0) := Heap.get?_push_size _ rfl
  have fits : ((#[] : Array Value) ++ us.toArray).size ≤ sizeLine + 1 := by
    simp only [Array.size_append, List.size_toArray, List.length_nil]
    omega
  unfold collect
  refine wpAny_bind (wpAny_runValue (codeAny_builtin entry_proto_collect' ?_))
  refine wpAny_bind (m := newList []) (wpAny_newList (wpAny_pure ⟨Code.quiet_builtin _ (by decide +kernel), codeAny_builtin entry_list_iadd' ?_⟩))
  show wpAny _ _ (Builtin.List.listExtendWith (.ref s.heap.objs.size) (.ref t) (.ref s.heap.objs.size)) _ _ { s with heap := s.heap.push (seqObj "list" #[] 0) }
  unfold Builtin.List.listExtendWith
  refine wpAny_bind (wpAny_typeOf (T := "tuple") ⟨ob, hob', hcls⟩ ?_)
  rw [if_pos (by rw [show (Value.type "tuple" == Value.type "tuple") = true from rfl]; simp)]
  refine wpAny_bind (listItems_at hob' hdat (listItems_at (xs := #[]) (n := 0) new rfl ?_ |> wpAny_bind))
  rw [if_neg (by simp)]
  refine wpAny_bind (listUpdate_at (xs := #[]) (n := 0) new rfl (wpAny_pure ?_) (Nat.zero_le _) fits)
  refine wpAny_bind (m := load s.heap.objs.size) (wpAny_load (get?_update_seq new _) ?_)
  refine wpAny_pure ?_
  rw [show ((#[] : Array Value) ++ us.toArray).toList = us by simp]
  exact k
theorem sorted_tup {t : Addr} {us : List Value} {ns : List Int} {Q : Value → Shared → Prop} (ht : IsTup s.heap t us.toArray) (hI : IntsAre us ns) (h64 : us.length < 64)
    (k : ∀ (out : Array Value) (ns' : List Int), IntsAre out.toList ns' → ns'.Perm ns → ns'.Pairwise (· ≤ ·) → Q (.ref (s.heap.objs.size + 1)) { s with heap := sortedAll s.heap us out }) :
    wpAny (model prog w) A (call (.builtin "sorted") [.ref t]) Q E s := by
  refine Calls.call_function_entry kind_sorted plain_sorted entry_sorted (args_sorted1 _) ?_
  unfold Builtin.«sorted»
  refine wpAny_bind (m := checkCount "sorted" 1 1 _) (wpAny_pure (wpAny_bind (tup_collected ht (by rw [sizeLine_eq]; omega) (wpAny_bind (wpAny_newList ?_)))))
  let g := (s.heap.push (seqObj "list" #[] 0)).update s.heap.objs.size (Obj.mapSeq (· ++ us.toArray))
  have zg : g.objs.size = s.heap.objs.size + 1 := by
    show ((s.heap.push _).update _ _).objs.size = _
    rw [Heap.size_update, size_push']
  have at1 : (g.push (seqObj "list" us.toArray 0)).get? (s.heap.objs.size + 1) = some (seqObj "list" us.toArray 0) := by
    rw [← zg]
    exact Heap.get?_push_size _ rfl
  show wpAny _ _ _ _ _ { s with heap := g.push (seqObj "list" us.toArray 0) }
  rw [show ({ s with heap := g } : Shared).heap.objs.size = s.heap.objs.size + 1 from zg]
  exact wpAny_bind (wpAny_holding (wpAny_call_entry slot_list_sort ⟨_, at1, rfl⟩ entry_list_sort (list_sort_tree at1 hI h64 fun out ns' a b c => ⟨_, rfl, wpAny_pure ⟨_, rfl, k out ns' a b c⟩⟩) (args_list_sort _)))
end
def rSortU (K : PySem.W.Frag) : List V → Hp → VK → Prop := fun vs H Q => ∃ (a : Addr) (ns : List Int), vs = [.ref a] ∧ SqT K H a (ns.map V.int) ∧ ns.length < 64 ∧
  ∀ (ms : List Int) (p : Addr), ms.Perm ns → ms.Pairwise (· ≤ ·) → H p = none → Q (.ref p) (L2.upd H p (.lst (ms.map V.int)))
theorem cr_sortU {X : Cx} : CallR X (.builtin "sorted") (rSortU X.K) := by
  intro pins s σ H vs us Q I r h
  obtain ⟨a, ns, rfl, hs, h64, q⟩ := h
  obtain ⟨its, rv, ht, _⟩ := I.tuple hs
  rw [Vals.ref1 r]
  have hi := Vals.ints rv
  refine sorted_tup ht hi (by rw [hi.length]; exact h64) fun out ms h1 h2 h3 => ?_
  obtain ⟨ep, he⟩ := sortedAll_at s.heap its out
  have lz : (ms.map V.int).length ≤ sizeLine := by rw [List.length_map, h2.length_eq]; exact small64 h64
  exact ⟨.ref _, L2.upd H (s.heap.objs.size + 1) (.lst (ms.map V.int)), I.laid (t' := s.toks) (fun _ _ => sortedAll_old) (Nat.le_succ _) ⟨lz, out.toList, ep, vals_of_ints h1, he⟩, rfl, q ms _ h2 h3 (I.hok.fresh (Nat.le_succ _))⟩
end K65

namespace K65
open PySem L2
local macro_rules | `(tactic| walk_at "hs") => `(tactic| with_reducible repeat' first | assumption | exact upd_same | refine upd_keep (by assumption) ?_ | refine upd_oth (by first | assumption | exact Ne.symm (by assumption)) ?_ | refine same_ap (by assumption) ?_ | refine but_ap (by assumption) (by assumption) ?_)
local macro_rules | `(tactic| walk_at "hS") => `(tactic| with_reducible repeat' first | exact Same.refl _ | assumption | refine same_upd ?_ ?_)
/-! ### a dict of counts -/
def kI (k : List Int) : List Key := k.map Sum.inl
theorem kI_inj {a b : List Int} (h : kI a = kI b) : a = b := by
  unfold kI at h
  induction a generalizing b with
  | nil => cases b with
    | nil => rfl
    | cons y b => cases h
  | cons x a ih => cases b with
    | nil => cases h
    | cons y b =>
      rw [List.map_cons, List.map_cons] at h
      obtain ⟨h1, h2⟩ := List.cons.inj h
      rw [Sum.inl.inj h1, ih h2]
theorem kI_kV (k : List Int) : (kI k).map kV = k.map V.int := by unfold kI; rw [List.map_map]; rfl
def encT (kvs : List (List Int × Int)) : List (List Key × V) := kvs.map fun e => (kI e.1, V.int e.2)
theorem dec_kI (a b : List Int) : decide (kI a = kI b) = decide (a = b) := by
  by_cases h : a = b
  · subst h; simp
  · rw [decide_eq_false h, decide_eq_false fun q => h (kI_inj q)]
theorem val_encT (k : List Int) : ∀ kvs : List (List Int × Int), (valV (encT kvs) (kI k)).getD (.int 0) = .int (look kvs k)
  | [] => rfl
  | e :: r => by
    show (valV ((kI e.1, V.int e.2) :: encT r) (kI k)).getD _ = _
    by_cases h : e.1 = k
    · rw [valV_pos (by rw [h])]
      simp [look, h]
    · rw [valV_neg fun q => h (kI_inj q), val_encT k r]
      simp [look, h]
theorem put_encT (kvs : List (List Int × Int)) (k : List Int) (v : Int) : putK (encT kvs) (kI k) (.int v) = encT (put kvs k v) := by
  have e : ((encT kvs).any fun kv => decide (kv.1 = kI k)) = kvs.any fun kv => decide (kv.1 = k) := by
    unfold encT
    rw [List.any_map]
    congr 1
    funext x
    exact dec_kI _ _
  unfold putK put
  rw [e]
  by_cases q : (kvs.any fun kv => decide (kv.1 = k)) = true
  · rw [if_pos q, if_pos q]
    unfold encT
    rw [List.map_map, List.map_map]
    refine List.map_congr_left fun x _ => ?_
    show (if kI x.1 = kI k then (kI x.1, V.int v) else (kI x.1, V.int x.2)) = _
    by_cases z : x.1 = k
    · rw [if_pos (by rw [z])]
      show _ = (kI (if x.1 = k then (x.1, v) else x).1, V.int (if x.1 = k then (x.1, v) else x).2)
      rw [if_pos z]
    · rw [if_neg fun y => z (kI_inj y)]
      show _ = (kI (if x.1 = k then (x.1, v) else x).1, V.int (if x.1 = k then (x.1, v) else x).2)
      rw [if_neg z]
  · rw [if_neg q, if_neg q]
    unfold encT
    rw [List.map_append]
    rfl
theorem W_snoc (f : List Int → Int) (a : List (List Int × Int)) (e : List Int × Int) : W f (a ++ [e]) = W f a + e.2 * f e.1 := by rw [W_append, W_cons, W_nil]; omega
/-- the weights of the longer ones that v, .. of the free nodes give -/
def longer (n : Nat) (ar : Arr) (k : Nat) (S : List Int) (vs : List Int) : Int := (vs.map fun v => ((cnt n ar k (S ++ [v]) : Nat) : Int)).sum
theorem longer_snoc (n : Nat) (ar : Arr) (k : Nat) (S vs : List Int) (v : Int) : longer n ar k S (vs ++ [v]) = longer n ar k S vs + ((cnt n ar k (S ++ [v]) : Nat) : Int) := by
  unfold longer
  simp
theorem longer_all (n : Nat) (ar : Arr) (k : Nat) (S : List Int) : longer n ar k S (free n ar S) = ((cnt n ar (k + 1) S : Nat) : Int) := by
  unfold longer
  conv => rhs; unfold cnt
  have : ∀ l : List Nat, ((l.sum : Nat) : Int) = (l.map fun (x : Nat) => (x : Int)).sum := by
    intro l
    induction l with
    | nil => rfl
    | cons a l ih => rw [List.sum_cons, List.map_cons, List.sum_cons, ← ih]; omega
  rw [this, List.map_map]
  rfl
theorem free_len (n : Nat) (ar : Arr) (p : List Int) : (free n ar p).length ≤ n := by
  have := List.length_filter_le (fun v => !decide (v ∈ p) && !decide (v ∈ held ar p)) (nodes n)
  rwa [length_nodes] at this
theorem mem_put {kvs : List (List Int × Int)} {k : List Int} {v : Int} {e : List Int × Int} (h : e ∈ put kvs k v) : e.1 = k ∨ ∃ e' ∈ kvs, e'.1 = e.1 := by
  unfold put at h
  split at h
  · obtain ⟨x, hx, rfl⟩ := List.mem_map.mp h
    refine .inr ⟨x, hx, ?_⟩
    split <;> rfl
  · rcases List.mem_append.mp h with h | h
    · exact .inr ⟨e, h, rfl⟩
    · rw [List.mem_singleton.mp h]; exact .inl rfl
def spCount (C : Addr) : Sp := fun vs H Q _ => ∃ (g : Addr) (n : Nat) (ar : Arr), vs = [.ref g] ∧ GraphAt C H g n ar ∧ n ≤ 8 ∧ ar.length ≤ 11 ∧ ∀ H' : Hp, Same H H' → Q (.int ((cnt n ar n [] : Nat) : Int)) H'
theorem pow_bound {i n j l : Nat} (hi : i < n) (hn : n ≤ 8) (hj : j < 8 ^ i) (hl : l < 8) : j * 8 + l < sizeLine := by
  have h1 : 8 ^ (i + 1) ≤ 8 ^ 8 := Nat.pow_le_pow_right (by decide) (by omega)
  rw [Nat.pow_succ] at h1
  have h2 : (8 : Nat) ^ 8 = sizeLine := by rw [sizeLine_eq]
  omega
/-- an expression by its value -/
theorem by_val {te : TE} {σ : St} {H : Hp} {R : VK} (Ok : V → Hp → Prop) (ev : ∀ R' : VK, (∀ v H', Ok v H' → R' v H') → te σ H R') (k : ∀ v H', Ok v H' → R v H') : te σ H R := ev R k
theorem for_itT {d : Addr} {o : Obj} {kvs : List (List Key × V)} {g : TG} {tb : TS} {D : Ends} {σ : St} {H : Hp} (Pv : Nat → St → Hp → Prop) (h0 : Pv 0 σ H) (hl : ∀ i σ H, Pv i σ H → H d = some (.frz o (.dT kvs)))
    (hs : ∀ i k v T q σ H, kvs[i]? = some (k, v) → Pv i σ H → H T = none → H q = some (.tup (k.map kV)) → g (.ref T) σ (L2.upd H T (.tup [.ref q, v])) fun σ2 H2 => tb { D with nx := Pv (i + 1), ct := Pv (i + 1), bk := D.nx } σ2 H2) (hd : ∀ σ H, Pv kvs.length σ H → D.nx σ H) :
    ∃ W : Nat → Nat → St → Hp → Prop, (∃ m, W 0 m σ H) ∧ ∀ i m σ H, W i m σ H →
      ((ItT d o kvs).stop i H ∧ D.nx σ H) ∨ ((ItT d o kvs).go i H ∧ ∃ N : St → Hp → Prop, (∀ σ' H', N σ' H' → ∃ m', m' < m ∧ W (i + 1) m' σ' H') ∧ ∀ x H', (ItT d o kvs).yld i H x H' → g x σ H' fun σ2 H2 => tb { D with nx := N, ct := N, bk := D.nx } σ2 H2) := by
  refine ⟨fun i m σ H => m = kvs.length - i ∧ i ≤ kvs.length ∧ Pv i σ H, ⟨_, rfl, Nat.zero_le _, h0⟩, fun i m σ H ⟨em, hi, p⟩ => ?_⟩
  subst em
  rcases Nat.lt_or_ge i kvs.length with q | q
  · refine .inr ⟨⟨hl i σ H p, q⟩, Pv (i + 1), fun σ' H' p' => ⟨_, by omega, rfl, q, p'⟩, fun x H' ⟨T, a, k, v, e, ex, hT, ha, eH⟩ => ?_⟩
    subst ex eH
    exact hs i k v T a σ H e p hT ha
  · have : i = kvs.length := by omega
    subst this
    exact .inl ⟨⟨hl _ σ H p, q⟩, hd σ H p⟩
section
variable {P : Program} {w : World} {K : PySem.W.Frag} {mg : Str → Option Value} {base : Heap}
theorem ok_count {f fF C : Addr} {fd fdF : FuncData} (F : Fun K "order_count" "order_count" sCount f fd) (T : GTxt K mg C) (GF : FnOk P w K mg base CX0 1 fF fdF ["graph", "placed"] (spFree K C)) (bF : Binds K fdF ["graph", "placed"] []) (mF : mg "free_nodes" = some (.ref fF)) (kF : PySem.W.keepIn K (.ref fF) = true)
    (zrange : mg "range" = none) (ztuple : mg "tuple" = none) (zsorted : mg "sorted" = none) (zsum : mg "sum" = none) (zlist : mg "list" = none) : FnOk P w K mg base CX0 2 f fd ["graph"] (spCount C) := by
  refine F.ok scCount (fun vs H Q E h => ?_) (fun cdv A outer s H vs Q E hr h => ?_)
  · obtain ⟨g, n, ar, rfl, _⟩ := h
    rfl
  · obtain ⟨g, n, ar, rfl, hg, hn, hl, k⟩ := h
    have hu := hu_of hr
    refine ⟨_, pss_cons (ps_set (i := 1) scCount.nd rfl (.inl rfl) (pe_dispT hu (pe_tup pa_nil) pe_int))
      (pss_cons (ps_for PassesOwn.never rfl (pi_range1 (by rfl) zrange (pa_cons (pe_fld (pv 0) rfl) pa_nil)) (pg_name (i := 2) scCount.nd rfl (.inl rfl))
        (pss_cons (ps_set (i := 3) scCount.nd rfl (.inl rfl) pe_dnewT)
        (pss_cons (ps_lock (ps_for PassesOwn.never rfl (pi_itemsT (pv 1)) (pg_tup rfl (pgs_cons (pg_name (i := 4) scCount.nd rfl (.inl rfl)) (pgs_cons (pg_name (i := 5) scCount.nd rfl (.inl rfl)) pgs_nil)))
          (pss_one (ps_for PassesOwn.never rfl (pi_list (pe_call GF hr (by rfl) mF kF bF .nil pass0 (pa_cons (pv 0) (pa_cons (pv 4) pa_nil)))) (pg_name (i := 6) scCount.nd rfl (.inl rfl))
            (pss_cons (ps_set (i := 7) scCount.nd rfl (.inl rfl) (pe_callTy call_tuple_of (by rfl) ztuple b_tuple (pa_cons (pe_callB cr_sortU (by rfl) zsorted b_sorted (pa_cons (pe_op op_catA (pv 4) (pe_tup (pa_cons (pv 6) pa_nil))) pa_nil)) pa_nil)))
            (pss_one (ps_dput hu (pv 3) (pv 7) (pe_op op_add (pe_dget2 hu (pv 3) (pv 7) pe_int ⟨rfl, rfl, rfl, rfl⟩) (pv 5)) rfl)))))))
        (pss_one (ps_set (i := 1) scCount.nd rfl (.inl rfl) (pv 3))))))
      (pss_one (ps_ret (pe_callB (cr_sum rfl) (by rfl) zsum b_sum (pa_cons (pe_listVals rfl (pv 1) (by rfl) zlist) pa_nil))))), ?_⟩
    refine fun c hc => ⟨Nat.zero_le _, fun b hb => ⟨b, [], rfl, upd_keep hb upd_same, upd_same, ?_⟩⟩
    have s0 : Same H (L2.upd (L2.upd (L2.upd H c (.dT [])) b (.tup [])) c (.dT [([], .int 1)])) := same_mut (same_upd (same_new hc) hb) hc
    obtain ⟨dx, t, ps, hg1, hg2, hgA⟩ := hg.same s0
    refine ⟨_, rfl, g, C, dx, _, _, rfl, hg1, T.cl, T.nS, gfs_size _ _, _, rfl, by omega, by omega, for_range (lo := 0) (n := ((n : Int)).toNat) (fun i σ H' => i ≤ n ∧ ∃ (kvs : List (List Int × Int)) (c : Addr) (x2 x3 x4 x5 x6 x7 : Option V), σ = [some (.ref g), some (.ref c), x2, x3, x4, x5, x6, x7] ∧ Same H H' ∧
        H' c = some (.dT (encT kvs)) ∧ (kvs.map (·.1)).Nodup ∧ (∀ e ∈ kvs, e.1.length = i) ∧ kvs.length ≤ 8 ^ i ∧ W (fun S => ((cnt n ar (n - i) S : Nat) : Int)) kvs = ((cnt n ar n [] : Nat) : Int))
      ⟨Nat.zero_le _, [([], 1)], c, none, none, none, none, none, none, rfl, s0, upd_same, by simp, (fun e he => by rw [List.mem_singleton.mp he]; rfl), Nat.le_refl _, by simp [W]⟩ ?_ ?_⟩
    · rintro i σ H1 hi ⟨_, kvs, c, x2, x3, x4, x5, x6, x7, rfl, sm, hc1, nd, hle, hkl, hW⟩
      have hi : i < n := by omega
      refine fun L hL => ⟨c, _, upd_keep hL hc1, trivial, fun od => ?_⟩
      have ncL : c ≠ L := ne_of_none hc1 hL
      have sl : Same H1 (L2.upd H1 L (.dT [])) := same_new hL
      refine ⟨_, rfl, c, od, encT kvs, rfl, upd_same, ?_⟩
      let Hl : Hp := L2.upd (L2.upd H1 L (.dT [])) c (.frz od (.dT (encT kvs)))
      have gl : GraphAt C Hl g n ar := by
        obtain ⟨dx, t, ps, g1, g2, g3⟩ := hg.same sm
        have nt : ∀ z xs, H1 z = some (.tup xs) → z ≠ c := fun z xs e q => by rw [q, hc1] at e; cases e
        refine ⟨dx, t, ps, ?_, ?_, g3.same fun z xs e => ?_⟩
        · show Hl g = _
          rw [show Hl g = (L2.upd H1 L (.dT [])) g from upd_ne fun q => by rw [q, hc1] at g1; cases g1]
          exact sl _ _ g1
        · rw [show Hl t = (L2.upd H1 L (.dT [])) t from upd_ne (nt _ _ g2)]
          exact sl _ _ g2
        · rw [show Hl z = (L2.upd H1 L (.dT [])) z from upd_ne (nt _ _ e)]
          exact sl _ _ e
      let f : List Int → Int := fun S => ((cnt n ar (n - i) S : Nat) : Int)
      let f' : List Int → Int := fun S => ((cnt n ar (n - i - 1) S : Nat) : Int)
      refine for_itT (fun j σ' H' => j ≤ kvs.length ∧ ∃ (ms : List (List Int × Int)) (x4 x5 x6 x7 : Option V), σ' = [some (.ref g), some (.ref c), some (.int (0 + (i : Int))), some (.ref L), x4, x5, x6, x7] ∧ SameBut L Hl H' ∧ H' L = some (.dT (encT ms)) ∧ (ms.map (·.1)).Nodup ∧
          (∀ e ∈ ms, e.1.length = i + 1) ∧ ms.length ≤ j * 8 ∧ W f' ms = W f (kvs.take j)) ⟨Nat.zero_le _, [], x4, x5, x6, x7, rfl, fun _ _ _ e => e, ?_, by simp, (fun e he => by cases he), Nat.zero_le _, rfl⟩ (fun j σ' H' ⟨_, ms, _, _, _, _, _, sb, _⟩ => sb _ _ ncL upd_same) ?_ ?_
      · exact (upd_ne ncL.symm).trans upd_same
      · rintro j k0 v0 T0 q σ' H2 hj ⟨_, ms, x4, x5, x6, x7, rfl, sb, hL2, nd2, hle2, hml, hW2⟩ hT0 hq0
        obtain ⟨⟨S, many⟩, hj', rfl, rfl⟩ : ∃ e : List Int × Int, kvs[j]? = some e ∧ k0 = kI e.1 ∧ v0 = .int e.2 := by
          unfold encT at hj
          rw [List.getElem?_map] at hj
          cases e : kvs[j]? with
          | none => rw [e] at hj; cases hj
          | some e' => rw [e] at hj; cases hj; exact ⟨e', rfl, rfl, rfl⟩
        have hSl : S.length = i := hle _ (List.mem_of_getElem? hj')
        have hjl : j < kvs.length := (List.getElem?_eq_some_iff.mp hj').1
        rw [kI_kV] at hq0
        have tk : kvs.take (j + 1) = kvs.take j ++ [(S, many)] := by rw [List.take_add_one, hj']; rfl
        refine ⟨T0, _, rfl, SqT.of upd_same, rfl, _, _, rfl, _, _, rfl, rfl, ?_⟩
        let H3 : Hp := L2.upd H2 T0 (.tup [.ref q, .int many])
        have s23 : Same H2 H3 := same_new hT0
        have sbl : ∀ {z : Hp}, Same H2 z → SameBut L Hl z := fun s b o hb e => s _ _ (sb b o hb e)
        have g3 : ∀ {z : Hp}, SameBut L Hl z → GraphAt C z g n ar := fun s => by
          obtain ⟨dx, t, ps, g1, g2, g3⟩ := gl
          have nL : ∀ y o, Hl y = some o → (∀ q : List (List Key × V), o ≠ .dT q) → y ≠ L := fun y o e h q => by
            rw [q, show Hl L = (L2.upd H1 L (.dT [])) L from upd_ne ncL.symm, upd_same] at e
            exact h _ (Option.some.inj e).symm
          exact ⟨dx, t, ps, s _ _ (nL _ _ g1 fun _ z => nomatch z) g1, s _ _ (nL _ _ g2 fun _ z => nomatch z) g2, g3.same fun y xs e => s _ _ (nL _ _ e fun _ z => nomatch z) e⟩
        refine ⟨_, rfl, _, rfl, g, q, n, ar, S, rfl, g3 (sbl s23), .inr (SqT.of (s23 _ _ hq0)), hn, hl, fun H4 r s4 hr4 h4 => ?_⟩
        have s24 : Same H2 H4 := s23.trans s4
        have hL4 := s24 _ _ hL2
        have rL : r ≠ L := fun e => by
          rw [e] at hr4
          exact nomatch (s23 _ _ hL2).symm.trans hr4
        have fl := free_len n ar S
        refine ⟨r, rfl, ⟨_, SqL.of h4⟩, for_list (K := K) (a := r) (xs := (free n ar S).map V.int) (fun l σ2 H5 => l ≤ (free n ar S).length ∧ ∃ (ms : List (List Int × Int)) (x6 x7 : Option V), σ2 = [some (.ref g), some (.ref c), some (.int (0 + (i : Int))), some (.ref L), some (.ref q), some (.int many), x6, x7] ∧ SameBut L H4 H5 ∧ H5 L = some (.dT (encT ms)) ∧ (ms.map (·.1)).Nodup ∧
            (∀ e ∈ ms, e.1.length = i + 1) ∧ ms.length ≤ j * 8 + l ∧ W f' ms = W f (kvs.take j) + many * longer n ar (n - i - 1) S ((free n ar S).take l)) ⟨Nat.zero_le _, ms, x6, x7, rfl, fun _ _ _ e => e, hL4, nd2, hle2, by omega, by rw [hW2]; simp [longer]⟩ (fun l σ2 H5 _ ⟨_, _, _, _, _, sb5, _⟩ => SqL.of (sb5 _ _ rL h4)) ?_ ?_⟩
        · rintro l x σ2 H5 hx ⟨_, ms, x6, x7, rfl, sb5, hL5, nd5, hle5, hml5, hW5⟩
          obtain ⟨hl2, e⟩ := List.getElem?_eq_some_iff.mp hx
          rw [List.getElem_map] at e
          rw [List.length_map] at hl2
          subst e
          have hq5 : H5 q = some (.tup (S.map V.int)) := sb5 _ _ (fun e => by rw [e, hL2] at hq0; cases hq0) (s24 _ _ hq0)
          generalize hv : (free n ar S)[l] = v
          -- placed + (node,)
          refine by_val (te := tOp (rCatA K) (tVar 4) (tTup (tCons (tVar 6) tNil))) (fun y H' => ∃ a, y = .ref a ∧ Same H5 H' ∧ H' a = some (.tup ((S ++ [v]).map V.int))) (fun R hR => ?_) (fun y H6 ⟨a, ey, s6, h6⟩ => ?_)
          · refine ⟨_, rfl, _, rfl, (show 1 ≤ sizeLine by decide), fun a ha => ⟨q, a, _, _, rfl, rfl, SqT.of (upd_keep ha hq5), SqT.of upd_same, ?_, fun e => ?_, (fun _ e => nomatch e), fun _ _ b hb => ?_⟩⟩
            · rw [List.length_map, hSl]
              exact Nat.le_trans (show _ ≤ 20 by simp; omega) (by decide)
            · refine hR _ _ ⟨a, rfl, same_new ha, ?_⟩
              have : S = [] := List.map_eq_nil_iff.mp e
              rw [this]
              exact upd_same
            · refine hR _ _ ⟨b, rfl, same_upd (same_new ha) hb, ?_⟩
              rw [List.map_append]
              exact upd_same
          subst ey
          refine ⟨a, S ++ [v], rfl, SqT.of h6, by rw [List.length_append, hSl]; simp; omega, fun zs p pm so hp => ?_⟩
          refine ⟨p, _, rfl, .inl ⟨SqL.of upd_same, fun t3 ht3 => ?_⟩⟩
          have s57 : Same H5 (L2.upd (L2.upd H6 p (.lst (zs.map V.int))) t3 (.tup (zs.map V.int))) := same_upd (same_upd s6 hp) ht3
          have hL7 := s57 _ _ hL5
          have h7 : L2.upd (L2.upd H6 p (.lst (zs.map V.int))) t3 (.tup (zs.map V.int)) t3 = some (.tup ((kI zs).map kV)) := by rw [kI_kV]; exact upd_same
          have zl : zs.length = i + 1 := by rw [pm.length_eq, List.length_append, hSl]; rfl
          have hkl' : j < 8 ^ i := Nat.lt_of_lt_of_le hjl hkl
          refine ⟨_, rfl, L, rfl, .inr ⟨_, .inl hL7⟩, _, rfl, _, DGet.t (k := kI zs) hL7 h7, _, rfl, look ms zs, many, val_encT _ _, rfl, _, rfl, _, rfl, L, _, rfl, DPut.t (k := kI zs) hL7 h7 ?_, ?_⟩
          · show (encT ms).length < sizeLine
            unfold encT
            rw [List.length_map]
            have := pow_bound hi hn hkl' (show l < 8 by omega)
            omega
          · refine ⟨hl2, put ms zs (look ms zs + many), _, _, rfl, ?_, ?_, keys_put nd5, ?_, ?_, ?_⟩
            · intro b o hb e
              rw [upd_ne hb]
              exact s57 _ _ (sb5 b o hb e)
            · rw [upd_same, put_encT]
            · intro e he
              rcases mem_put he with q | ⟨e', he', q⟩
              · rw [q, zl]
              · rw [← q]; exact hle5 _ he'
            · have := length_put ms zs (look ms zs + many)
              omega
            · rw [W_put f' zs many nd5, hW5, List.take_add_one, List.getElem?_eq_getElem hl2, hv]
              show _ = _ + many * longer n ar (n - i - 1) S ((free n ar S).take l ++ [v])
              rw [longer_snoc, Int.mul_add]
              have : f' zs = ((cnt n ar (n - i - 1) (S ++ [v]) : Nat) : Int) := by
                show ((cnt n ar (n - i - 1) zs : Nat) : Int) = _
                rw [cnt_congr _ fun x => pm.mem_iff]
              rw [this]
              omega
        · rintro σ2 H5 ⟨_, ms, x6, x7, rfl, sb5, hL5, nd5, hle5, hml5, hW5⟩
          rw [List.length_map] at hml5
          rw [List.length_map, List.take_length, show n - i - 1 = n - i - 1 from rfl, longer_all, show n - i - 1 + 1 = n - i by omega] at hW5
          refine ⟨hjl, ms, _, _, _, _, rfl, ?_, hL5, nd5, hle5, by omega, ?_⟩
          · exact fun b o hb e => sb5 b o hb (s24 _ _ (sb b o hb e))
          · rw [hW5, tk, W_snoc]
      · rintro σ' H2 ⟨_, ms, x4, x5, x6, x7, rfl, sb, hL2, nd2, hle2, hml, hW2⟩
        have el : (encT kvs).length = kvs.length := List.length_map _
        rw [el] at hml hW2
        rw [List.take_length] at hW2
        refine ⟨sb _ _ ncL upd_same, _, rfl, by omega, ms, L, _, _, _, _, _, _, rfl, ?_, ?_, nd2, hle2, ?_, ?_⟩
        · intro b o e
          by_cases hbc : b = c
          · rw [hbc, upd_same]
            have e1 := sm _ _ e
            rw [hbc, hc1] at e1
            exact e1
          · rw [upd_ne hbc]
            have hbL : b ≠ L := ne_of_none (sm _ _ e) hL
            refine sb b o hbL ?_
            rw [show Hl b = (L2.upd H1 L (.dT [])) b from upd_ne hbc]
            exact sl _ _ (sm _ _ e)
        · rw [upd_ne ncL.symm]; exact hL2
        · rw [Nat.pow_succ]
          exact Nat.le_trans hml (Nat.mul_le_mul_right 8 hkl)
        · rw [show n - (i + 1) = n - i - 1 by omega, ← hW]
          exact hW2
    · rintro σ H1 ⟨_, kvs, c, x2, x3, x4, x5, x6, x7, rfl, sm, hc1, nd, hle, hkl, hW⟩
      rw [show ((n : Int)).toNat = n by omega, Nat.sub_self] at hW
      have eW : W (fun S => ((cnt n ar 0 S : Nat) : Int)) kvs = (kvs.map (·.2)).sum := by
        unfold W
        congr 1
        exact List.map_congr_left fun e _ => by show e.2 * 1 = e.2; omega
      have e2 : (encT kvs).map (·.2) = (kvs.map (·.2)).map V.int := by unfold encT; rw [List.map_map, List.map_map]; rfl
      refine ⟨_, rfl, c, _, rfl, hc1, fun p hp => ⟨p, kvs.map (·.2), rfl, SqL.of (by rw [← e2]; exact upd_same), ?_⟩⟩
      rw [← eW, hW]
      exact k _ (same_upd sm hp)
end
end K65

namespace K65
open PySem L2
local macro_rules | `(tactic| walk_at "hs") => `(tactic| with_reducible repeat' first | assumption | exact upd_same | refine upd_keep (by assumption) ?_ | refine upd_oth (by first | assumption | exact Ne.symm (by assumption)) ?_ | refine same_ap (by assumption) ?_ | refine but_ap (by assumption) (by assumption) ?_)
local macro_rules | `(tactic| walk_at "hS") => `(tactic| with_reducible repeat' first | exact Same.refl _ | assumption | refine same_upd ?_ ?_)
/-! ### bits -/
theorem shl_one (k : Nat) : (1 : Int) * 2 ^ ((k : Int)).toNat = ((2 ^ k : Nat) : Int) := by
  rw [Int.one_mul, Int.toNat_natCast]
  exact (Int.natCast_pow 2 k).symm
theorem band (a b : Nat) : Builtin.bitAnd (a : Int) (b : Int) = ((a &&& b : Nat) : Int) := by
  rw [PyProof.Rows.bitAnd_pp (Int.natCast_nonneg a) (Int.natCast_nonneg b), Int.toNat_natCast, Int.toNat_natCast]
theorem bor (a b : Nat) : Builtin.bitOr (a : Int) (b : Int) = ((a ||| b : Nat) : Int) := by
  rw [Bits.bitOr_pp (Int.natCast_nonneg a) (Int.natCast_nonneg b), Int.toNat_natCast, Int.toNat_natCast]
theorem no_bit (m a : Nat) : (m &&& 2 ^ a = 0) ↔ m.testBit a = false := by
  constructor
  · intro h
    have := congrArg (fun x => Nat.testBit x a) h
    simpa [Nat.testBit_and, Nat.testBit_two_pow] using this
  · intro h
    refine Nat.eq_of_testBit_eq fun i => ?_
    rw [Nat.testBit_and, Nat.testBit_two_pow, Nat.zero_testBit]
    by_cases e : a = i
    · subst e; simp [h]
    · simp [e]
theorem all_bits (a m : Nat) : (a &&& m = a) ↔ ∀ i, a.testBit i = true → m.testBit i = true := by
  constructor
  · intro h i hi
    have := congrArg (fun x => Nat.testBit x i) h
    simp only [Nat.testBit_and, hi, Bool.true_and] at this
    exact this
  · intro h
    refine Nat.eq_of_testBit_eq fun i => ?_
    rw [Nat.testBit_and]
    cases e : a.testBit i with
    | false => rfl
    | true => rw [h i e]; rfl
/-- the nodes ahead of the node at + 1, as places -/
def aheadOf (ar : Arr) (v : Int) : List Nat := (ar.filter fun a => decide (a.2 = v)).map fun a => (a.1 - 1).toNat
theorem ahead_snoc (ar : Arr) (a : Int × Int) (v : Int) : aheadOf (ar ++ [a]) v = aheadOf ar v ++ (if a.2 = v then [(a.1 - 1).toNat] else []) := by
  unfold aheadOf
  rw [List.filter_append, List.map_append]
  by_cases h : a.2 = v <;> simp [h]
theorem mem_ahead {n : Nat} {ar : Arr} (hO : ArOk n ar) {v : Int} {i : Nat} : i ∈ aheadOf ar v ↔ ((i : Int) + 1, v) ∈ ar := by
  unfold aheadOf
  rw [List.mem_map]
  constructor
  · rintro ⟨⟨x, y⟩, h, rfl⟩
    obtain ⟨h1, h2⟩ := List.mem_filter.mp h
    have h2 : y = v := by simpa using h2
    have := (hO _ h1).2.1
    subst h2
    have e : (((x - 1).toNat : Nat) : Int) + 1 = x := by show (((x - 1).toNat : Nat) : Int) + 1 = x; simp at this; omega
    rw [e]
    exact h1
  · intro h
    exact ⟨_, List.mem_filter.mpr ⟨h, by simp⟩, by show ((i : Int) + 1 - 1).toNat = i; omega⟩
theorem nodup_ahead {n : Nat} {ar : Arr} (hO : ArOk n ar) (hn : ar.Nodup) (v : Int) : (aheadOf ar v).Nodup := by
  unfold aheadOf
  refine List.Pairwise.map _ (fun a b h => ?_) (List.Pairwise.and_mem.mp (hn.filter _))
  obtain ⟨ha, hb, hab⟩ := h
  obtain ⟨a1, a2⟩ := List.mem_filter.mp ha
  obtain ⟨b1, b2⟩ := List.mem_filter.mp hb
  have a2 : a.2 = v := by simpa using a2
  have b2 : b.2 = v := by simpa using b2
  have := (hO _ a1).2.1
  have := (hO _ b1).2.1
  intro e
  exact hab (Prod.ext (by omega) (a2.trans b2.symm))
theorem next_bits {n : Nat} {ar : Arr} (hO : ArOk n ar) (hn : ar.Nodup) (m a : Nat) : Next ar m a ↔ (m &&& 2 ^ a = 0 ∧ bits (aheadOf ar ((a : Int) + 1)) &&& m = bits (aheadOf ar ((a : Int) + 1))) := by
  unfold Next
  rw [no_bit, all_bits]
  refine and_congr_right fun _ => ⟨fun h i hi => ?_, fun h x hx => ?_⟩
  · rw [testBit_bits (nodup_ahead hO hn _)] at hi
    have := h _ ((mem_ahead hO).mp (of_decide_eq_true hi))
    rwa [show ((i : Int) + 1 - 1).toNat = i by omega] at this
  · have b := (hO _ hx).2.1
    have b : 1 ≤ x ∧ x ≤ n := b
    refine h _ ?_
    rw [testBit_bits (nodup_ahead hO hn _)]
    refine decide_eq_true ((mem_ahead hO).mpr ?_)
    rw [show (((x - 1).toNat : Nat) : Int) + 1 = x by omega]
    exact hx
theorem bits_sum (xs : List Nat) : ((xs.map fun x => ((2 ^ x : Nat) : Int)).sum) = ((bits xs : Nat) : Int) := by
  unfold bits
  induction xs with
  | nil => rfl
  | cons a l ih => rw [List.map_cons, List.sum_cons, List.map_cons, List.sum_cons, ih]; omega
/-- the counts ahead of the mask j -/
structure Ways (n : Nat) (ar : Arr) (j : Nat) (cs : List Int) : Prop where
  len : cs.length = 2 ^ n
  pos : ∀ m, 0 ≤ cs.getD m 0
  sum : j < 2 ^ n → sumR (fun m => cs.getD m 0 * wt n ar m) j (2 ^ n - j) = ((cnt n ar n [] : Nat) : Int)
  fin : 2 ^ n ≤ j → cs.getD (2 ^ n - 1) 0 = ((cnt n ar n [] : Nat) : Int)
/-- amid the mask j, ahead of the place a -/
structure WaysAt (n : Nat) (ar : Arr) (j a : Nat) (c : Nat → Bool) (cj : Int) (cs : List Int) : Prop where
  len : cs.length = 2 ^ n
  pos : ∀ m, 0 ≤ cs.getD m 0
  at_ : cs.getD j 0 = cj
  sum : j < 2 ^ n - 1 → sumR (fun m => cs.getD m 0 * wt n ar m) (j + 1) (2 ^ n - (j + 1)) + cj * sumR (fun a => if c a = true then wt n ar (j ||| 2 ^ a) else 0) a (n - a) = ((cnt n ar n [] : Nat) : Int)
  fin : j = 2 ^ n - 1 → cs.getD (2 ^ n - 1) 0 = ((cnt n ar n [] : Nat) : Int)
section
variable {n : Nat} {ar : Arr}
theorem pow_pos' (n : Nat) : 0 < 2 ^ n := Nat.two_pow_pos n
theorem Ways.start : Ways n ar 0 ((List.replicate (2 ^ n) (0 : Int)).set 0 1) where
  len := by simp
  pos := fun m => by
    rw [List.getD_eq_getElem?_getD, List.getElem?_set]
    split
    · split <;> simp
    · rw [List.getElem?_replicate]; split <;> simp
  sum := fun h => by
    have e : ∀ m, 0 ≤ m → m < 0 + (2 ^ n - 0) → m ≠ 0 → (((List.replicate (2 ^ n) (0 : Int)).set 0 1).getD m 0 * wt n ar m) = (fun _ : Nat => (0 : Int)) m := fun m _ h1 h2 => by
      rw [List.getD_eq_getElem?_getD, List.getElem?_set_ne (Ne.symm h2), List.getElem?_replicate, if_pos (by omega)]
      simp
    have e0 : (((List.replicate (2 ^ n) (0 : Int)).set 0 1).getD 0 0 * wt n ar 0) = (fun _ : Nat => (0 : Int)) 0 + wt n ar 0 := by
      have hp := pow_pos' n
      rw [List.getD_eq_getElem?_getD, List.getElem?_set_self (by simp; omega)]
      simp
    rw [sumR_add (g := fun _ => 0) (a := 0) e (Nat.le_refl _) (by omega) e0, sumR_zero, wt_zero]
    simp
  fin := fun h => by have := pow_pos' n; omega
/-- the mask is left out: none begins with it -/
theorem Ways.skip {j : Nat} {cs : List Int} (h : Ways n ar j cs) (hj : j < 2 ^ n) (hz : ¬ 0 < cs.getD j 0) : Ways n ar (j + 1) cs := by
  have z : cs.getD j 0 = 0 := by have := h.pos j; omega
  have s := h.sum hj
  obtain ⟨k, hk⟩ : ∃ k, 2 ^ n - j = k + 1 := ⟨2 ^ n - j - 1, by omega⟩
  rw [hk] at s
  have s' : cs.getD j 0 * wt n ar j + sumR (fun m => cs.getD m 0 * wt n ar m) (j + 1) k = ((cnt n ar n [] : Nat) : Int) := s
  rw [z] at s'
  refine ⟨h.len, h.pos, fun h2 => ?_, fun h2 => ?_⟩
  · rw [show 2 ^ n - (j + 1) = k by omega]
    omega
  · have : k = 0 := by omega
    subst this
    have e : j = 2 ^ n - 1 := by omega
    subst e
    rw [z]
    have s' : 0 * wt n ar (2 ^ n - 1) + 0 = ((cnt n ar n [] : Nat) : Int) := s'
    omega
theorem Ways.enter {j : Nat} {cs : List Int} (hA : ∀ x y, (x, y) ∈ ar → (1 ≤ x ∧ x ≤ n)) (h : Ways n ar j cs) (hj : j < 2 ^ n) (c : Nat → Bool) (hc : ∀ a, a < n → (c a = true ↔ Next ar j a)) : WaysAt n ar j 0 c (cs.getD j 0) cs := by
  have s := h.sum hj
  obtain ⟨k, hk⟩ : ∃ k, 2 ^ n - j = k + 1 := ⟨2 ^ n - j - 1, by omega⟩
  rw [hk] at s
  have s' : cs.getD j 0 * wt n ar j + sumR (fun m => cs.getD m 0 * wt n ar m) (j + 1) k = ((cnt n ar n [] : Nat) : Int) := s
  refine ⟨h.len, h.pos, rfl, fun h2 => ?_, fun h2 => ?_⟩
  · rw [show 2 ^ n - (j + 1) = k by omega, Nat.sub_zero, ← wt_step hA (setOf_lt h2) c hc]
    omega
  · subst h2
    have : k = 0 := by omega
    subst this
    have s' : cs.getD (2 ^ n - 1) 0 * wt n ar (2 ^ n - 1) + 0 = ((cnt n ar n [] : Nat) : Int) := s'
    rw [wt_full] at s'
    omega
theorem WaysAt.no {j a : Nat} {c : Nat → Bool} {cj : Int} {cs : List Int} (h : WaysAt n ar j a c cj cs) (ha : a < n) (hc : c a = false) : WaysAt n ar j (a + 1) c cj cs := by
  refine ⟨h.len, h.pos, h.at_, fun h2 => ?_, h.fin⟩
  have s := h.sum h2
  rw [show n - a = n - (a + 1) + 1 by omega] at s
  have e : sumR (fun a => if c a = true then wt n ar (j ||| 2 ^ a) else 0) a (n - (a + 1) + 1) = (if c a = true then wt n ar (j ||| 2 ^ a) else 0) + sumR (fun a => if c a = true then wt n ar (j ||| 2 ^ a) else 0) (a + 1) (n - (a + 1)) := rfl
  rw [e, hc, if_neg (by decide), Int.zero_add] at s
  exact s
theorem or_gt {j a : Nat} (h : j.testBit a = false) : j < j ||| 2 ^ a := by
  have h1 : j ≤ j ||| 2 ^ a := Nat.left_le_or
  rcases Nat.lt_or_ge j (j ||| 2 ^ a) with q | q
  · exact q
  · have e : j ||| 2 ^ a = j := by omega
    have := congrArg (fun x => Nat.testBit x a) e
    simp [Nat.testBit_or, h] at this
theorem WaysAt.yes {j a : Nat} {c : Nat → Bool} {cj : Int} {cs : List Int} (h : WaysAt n ar j a c cj cs) (hj : j < 2 ^ n) (hcj : 0 < cj) (ha : a < n) (hc : c a = true) (hb : j.testBit a = false) :
    (j ||| 2 ^ a) < 2 ^ n ∧ WaysAt n ar j (a + 1) c cj (cs.set (j ||| 2 ^ a) (cs.getD (j ||| 2 ^ a) 0 + cj)) := by
  have lt : (j ||| 2 ^ a) < 2 ^ n := Nat.or_lt_two_pow hj (Nat.pow_lt_pow_right (by decide) ha)
  have gt := or_gt hb
  have hlen := h.len
  have get : ∀ m, (cs.set (j ||| 2 ^ a) (cs.getD (j ||| 2 ^ a) 0 + cj)).getD m 0 = if m = (j ||| 2 ^ a) then cs.getD m 0 + cj else cs.getD m 0 := fun m => by
    rw [List.getD_eq_getElem?_getD, List.getElem?_set]
    by_cases e : m = (j ||| 2 ^ a)
    · subst e
      rw [if_pos rfl, if_pos (by omega), if_pos rfl]
      rfl
    · rw [if_neg (Ne.symm e), if_neg e, ← List.getD_eq_getElem?_getD]
  refine ⟨lt, by rw [List.length_set]; exact hlen, fun m => ?_, ?_, fun h2 => ?_, fun h2 => ?_⟩
  · rw [get]
    have := h.pos m
    split <;> omega
  · rw [get, if_neg (by omega)]
    exact h.at_
  · have s := h.sum h2
    rw [show n - a = n - (a + 1) + 1 by omega] at s
    have e : sumR (fun a => if c a = true then wt n ar (j ||| 2 ^ a) else 0) a (n - (a + 1) + 1) = (if c a = true then wt n ar (j ||| 2 ^ a) else 0) + sumR (fun a => if c a = true then wt n ar (j ||| 2 ^ a) else 0) (a + 1) (n - (a + 1)) := rfl
    rw [e, hc, if_pos rfl, Int.mul_add] at s
    rw [sumR_add (g := fun m => cs.getD m 0 * wt n ar m) (a := j ||| 2 ^ a) (c := cj * wt n ar (j ||| 2 ^ a)) (fun m _ _ hm => by rw [get, if_neg hm]) (by omega) (by omega) (by rw [get, if_pos rfl, Int.add_mul])]
    omega
  · omega
theorem WaysAt.leave {j : Nat} {c : Nat → Bool} {cj : Int} {cs : List Int} (h : WaysAt n ar j n c cj cs) (hj : j < 2 ^ n) : Ways n ar (j + 1) cs := by
  refine ⟨h.len, h.pos, fun h2 => ?_, fun h2 => ?_⟩
  · have s := h.sum (by omega)
    rw [Nat.sub_self] at s
    have s : _ + cj * 0 = _ := s
    omega
  · exact h.fin (by omega)
end
end K65

namespace K65
open PySem L2
local macro_rules | `(tactic| walk_at "hs") => `(tactic| with_reducible repeat' first | assumption | exact upd_same | refine upd_keep (by assumption) ?_ | refine upd_oth (by first | assumption | exact Ne.symm (by assumption)) ?_ | refine same_ap (by assumption) ?_ | refine but_ap (by assumption) (by assumption) ?_)
local macro_rules | `(tactic| walk_at "hS") => `(tactic| with_reducible repeat' first | exact Same.refl _ | assumption | refine same_upd ?_ ?_)
def spWays (K : PySem.W.Frag) : Sp := fun vs H Q _ => ∃ (al : Addr) (n : Nat) (ps : List Addr) (ar : Arr), vs = [.int (n : Int), .ref al] ∧ SqL K H al (ps.map V.ref) ∧ Arrs H ps ar ∧ n ≤ 8 ∧ ar.length ≤ 11 ∧ ArOk n ar ∧ ar.Nodup ∧ ∀ H' : Hp, Same H H' → Q (.int ((cnt n ar n [] : Nat) : Int)) H'
theorem pow8 {n : Nat} (hn : n ≤ 8) : 2 ^ n ≤ 256 := by
  have : 2 ^ n ≤ 2 ^ 8 := Nat.pow_le_pow_right (by decide) hn
  omega
theorem got_int {cs : List Int} {j m : Nat} (hl : cs.length = m) (hj : j < m) : (cs.map V.int)[j]? = some (.int (cs.getD j 0)) := by
  have h : j < cs.length := hl ▸ hj
  rw [List.getElem?_map, List.getElem?_eq_getElem h, List.getD_eq_getElem?_getD, List.getElem?_eq_getElem h]
  rfl
section
variable {P : Program} {w : World} {K : PySem.W.Frag} {mg : Str → Option Value} {base : Heap}
theorem ok_ways {f : Addr} {fd : FuncData} (F : Fun K "_law_ways" "_law_ways" sWays f fd) (zrange : mg "range" = none) (zsum : mg "sum" = none) : FnOk P w K mg base CX0 1 f fd ["_law_size", "_law_arrows_here"] (spWays K) := by
  refine F.ok scWays (fun vs H Q E h => ?_) (fun cdv A outer s H vs Q E hr h => ?_)
  · obtain ⟨al, n, ps, ar, rfl, _⟩ := h
    rfl
  · obtain ⟨al, n, ps, ar, rfl, hal, hA, hn, hl, hO, hnd, k⟩ := h
    refine ⟨_, pss_cons (ps_set (i := 2) scWays.nd rfl (.inl rfl) (pe_lst pa_nil))
      (pss_cons (ps_for PassesOwn.never rfl (pi_range2 (by rfl) zrange (pa_cons pe_int (pa_cons (pe_op op_add (pv 0) pe_int) pa_nil))) (pg_name (i := 3) scWays.nd rfl (.inr rfl))
        (pss_one (ps_expr (pe_bm PySem.F.plainAttrs_list PySem.F.slot_list_append PySem.F.type_list_append mt_append (pv 2) (pa_cons (pe_callB (cr_sum rfl) (by rfl) zsum b_sum (pa_cons
          (pe_lc (own := [("_law_x", 8), ("_law_y", 9)]) (g := gTup K 2 (gCons (gName 8) (gCons (gName 9) gNil))) (by rfl) scWays.nd (pi_list (pv 1)) (blkOk_by (N := ["_law_size", "_law_arrows_here", "_law_ahead", "_law_node", "_law_counts", "_law_placed", "_law_at", "_law_after", "_law_x", "_law_y", "_law_k"]) (sc := defScope sWays) (by decide +kernel))
            (fun _ _ _ _ _ => pg_tup rfl (pgs_cons (pg_name (i := 8) scWays.nd rfl (Or.inl rfl)) (pgs_cons (pg_name (i := 9) scWays.nd rfl (Or.inl rfl)) pgs_nil)))
            (fun _ _ _ _ _ => pts_one (pt_cmpR op_eq (pv 9) (pv 3) (nomark _))) (fun _ _ _ _ _ => pe_op op_shl pe_int (pe_op op_sub (pv 8) pe_int))) pa_nil)) pa_nil)))))
      (pss_cons (ps_setLc (i := 4) (own := [("_law_k", 10)]) (g := gName 10) (tt := tYes) (te := tC (.int 0)) (by rfl) scWays.nd rfl rfl (sw_true rfl rfl rfl (by decide +kernel)) (pi_range1 (by rfl) zrange (pa_cons (pe_op op_shl pe_int (pv 0)) pa_nil))
          (blkOk_by (N := ["_law_size", "_law_arrows_here", "_law_ahead", "_law_node", "_law_counts", "_law_placed", "_law_at", "_law_after", "_law_x", "_law_y", "_law_k"]) (sc := defScope sWays) (by decide +kernel)) (fun _ _ _ _ _ => pg_name (i := 10) scWays.nd rfl (Or.inl rfl)) (fun _ _ _ _ _ => pts_nil) (fun _ _ _ _ _ => pe_int))
      (pss_cons (ps_asg pe_int (pg_sub (pv 4) pe_int set_list))
      (pss_cons (ps_for PassesOwn.never rfl (pi_range1 (by rfl) zrange (pa_cons (pe_op op_shl pe_int (pv 0)) pa_nil)) (pg_name (i := 5) scWays.nd rfl (.inl rfl))
        (pss_one (ps_if (pt_cmpR op_gt (pe_ix ix_list (pv 4) (pv 5) (fun _ _ => rfl)) pe_int (nomark _))
          (pss_one (ps_for PassesOwn.never rfl (pi_range1 (by rfl) zrange (pa_cons (pv 0) pa_nil)) (pg_name (i := 6) scWays.nd rfl (.inl rfl))
            (pss_one (ps_if (PW.pt (pw_and (pt_cmpR op_eq (pe_op op_and (pv 5) (pe_op op_shl pe_int (pv 6))) pe_int (nomark _)) (pw_and1 (pt_cmpR op_eq (pe_op op_and (pe_ix ix_list (pv 2) (pv 6) (fun _ _ => rfl)) (pv 5)) (pe_ix ix_list (pv 2) (pv 6) (fun _ _ => rfl)) (nomark _)))))
              (pss_cons (ps_set (i := 7) scWays.nd rfl (.inl rfl) (pe_op op_or (pv 5) (pe_op op_shl pe_int (pv 6))))
              (pss_one (ps_asg (pe_op op_add (pe_ix ix_list (pv 4) (pv 7) (fun _ _ => rfl)) (pe_ix ix_list (pv 4) (pv 5) (fun _ _ => rfl))) (pg_sub (pv 4) (pv 7) set_list)))) pss_nil)))) pss_nil)))
      (pss_one (ps_ret (pe_ix ix_list (pv 4) (pe_op op_sub (pe_op op_shl pe_int (pv 0)) pe_int) (fun _ _ => rfl)))))))), ?_⟩
    have p256 := pow8 hn
    have lo2 : (-(2 ^ 62) : Int) ≤ ((2 ^ n : Nat) : Int) := Int.le_trans (by decide) (Int.natCast_nonneg _)
    have hi2 : ((2 ^ n : Nat) : Int) < 2 ^ 62 := Int.lt_of_le_of_lt (Int.ofNat_le.mpr p256) (by decide)
    have cp : ∀ j : Nat, j ≤ 8 → CPow 1 (j : Int) := fun j hj => ⟨by omega, by omega, by decide⟩
    have lps : ps.length = ar.length := hA.length
    refine ⟨Nat.zero_le _, fun La hLa => ?_⟩
    let av : Nat → Nat := fun i => bits (aheadOf ar ((i : Int) + 1))
    refine ⟨_, rfl, _, _, rfl, rfl, _, _, rfl, ⟨by decide, by decide, by omega, by omega⟩, for_range (lo := 1) (n := ((n : Int) + 1 - 1).toNat) (fun i σ H' => i ≤ n ∧ ∃ x3 : Option V, σ = [some (.int n), some (.ref al), some (.ref La), x3, none, none, none, none, none, none, none] ∧ Same H H' ∧
        H' La = some (.lst ((List.range i).map fun i => V.int ((av i : Nat) : Int)))) ⟨Nat.zero_le _, none, rfl, same_new hLa, upd_same⟩ ?_ ?_⟩
    · rintro i σ H1 hi ⟨_, x3, rfl, sm, hL1⟩
      have hi : i < n := by omega
      refine ⟨_, rfl, .inl ⟨rfl, _, SqL.of hL1⟩, _, rfl, al, rfl, ⟨_, sm.seq hal⟩, fun D hD => ?_⟩
      have hA1 : Arrs H1 ps ar := hA.same fun _ _ e => sm _ _ e
      refine lc_list (K := K) (a := al) (xs := ps.map V.ref) (fun l H' => Same H1 H' ∧ H' D = some (.lst ((aheadOf (ar.take l) ((i : Int) + 1)).map fun x => V.int ((2 ^ x : Nat) : Int)))) ⟨same_new hD, upd_same⟩ (fun l H' _ ⟨sm', _⟩ => (sm.trans sm').seq hal) ?_ ?_
      · rintro l x H' hx ⟨sm', hk⟩
        obtain ⟨c, hc, rfl⟩ : ∃ t, ps[l]? = some t ∧ x = .ref t := by
          rw [List.getElem?_map] at hx
          cases e : ps[l]? with
          | none => rw [e] at hx; cases hx
          | some u => rw [e] at hx; exact ⟨u, rfl, (Option.some.inj hx).symm⟩
        obtain ⟨⟨x, y⟩, ha, hxy⟩ := hA1.at hc
        have hlt : l < ar.length := (List.getElem?_eq_some_iff.mp ha).1
        have bx := (hO _ (List.mem_of_getElem? ha)).2.1
        have bx : 1 ≤ x ∧ x ≤ n := bx
        have et : aheadOf (ar.take (l + 1)) ((i : Int) + 1) = aheadOf (ar.take l) ((i : Int) + 1) ++ (if y = (i : Int) + 1 then [(x - 1).toNat] else []) := by
          rw [List.take_add_one, ha]
          exact ahead_snoc _ (x, y) _
        have hlen : (aheadOf (ar.take l) ((i : Int) + 1)).length ≤ 11 := by
          unfold aheadOf
          rw [List.length_map]
          have := List.length_filter_le (fun a : Int × Int => decide (a.2 = (i : Int) + 1)) (ar.take l)
          rw [List.length_take] at this
          omega
        refine ⟨c, _, rfl, SqT.of (sm' _ _ hxy), rfl, _, _, rfl, _, _, rfl, rfl, rfl, ?_⟩
        refine ⟨_, rfl, _, rfl, rfl, _, rfl, ite2 (fun q => ?_) (fun q => ?_)⟩
        · have hy : y = (i : Int) + 1 := by have := V.int.inj (of_decide_eq_true q); omega
          refine ⟨_, rfl, _, _, rfl, rfl, _, _, rfl, rfl, ⟨by omega, by omega, by decide⟩, _, hk, by rw [List.length_map]; exact small1000 (by omega), same_mut sm' hD, ?_⟩
          rw [upd_same, et, if_pos hy, List.map_append]
          have : (1 : Int) * 2 ^ (x - 1).toNat = ((2 ^ (x - 1).toNat : Nat) : Int) := by rw [Int.one_mul]; exact (Int.natCast_pow 2 _).symm
          show some (HO.lst (_ ++ [V.int (1 * 2 ^ (x - 1).toNat)])) = _
          rw [this]
          rfl
        · have hy : ¬ y = (i : Int) + 1 := fun e => q (decide_eq_true (by rw [e]; congr 1; omega))
          refine ⟨sm', ?_⟩
          rw [et, if_neg hy, List.append_nil]
          exact hk
      · rintro H' ⟨sm', hk⟩
        rw [List.length_map, lps, List.take_length] at hk
        have hk : H' D = some (.lst (((aheadOf ar ((i : Int) + 1)).map fun x => ((2 ^ x : Nat) : Int)).map V.int)) := by rw [hk, List.map_map]; rfl
        refine ⟨D, _, rfl, SqL.of hk, ?_⟩
        rw [bits_sum]
        have hL' := sm' _ _ hL1
        refine ⟨La, _, _, rfl, rfl, hL', by rw [List.length_map, List.length_range]; exact small1000 (by omega), ?_⟩
        refine ⟨hi, _, rfl, same_mut (sm.trans sm') hLa, ?_⟩
        rw [upd_same, List.range_succ, List.map_append]
        rfl
    · rintro σ H1 ⟨_, x3, rfl, sm, hL1⟩
      rw [show ((n : Int) + 1 - 1).toNat = n by omega] at hL1
      have hsh : (1 : Int) * 2 ^ ((n : Int)).toNat = ((2 ^ n : Nat) : Int) := shl_one n
      have hv : ([V.int (1 * 2 ^ ((n : Int)).toNat)] : List V) = [V.int ((2 ^ n : Nat) : Int)] := by rw [hsh]
      refine ⟨_, rfl, _, _, rfl, rfl, cp n hn, ((2 ^ n : Nat) : Int), hv, lo2, hi2, fun Lc hLc => ?_⟩
      have nLac : La ≠ Lc := ne_of_none hL1 hLc
      have n0 : (((2 ^ n : Nat) : Int)).toNat = 2 ^ n := Int.toNat_natCast _
      refine lc_range (lo := 0) (n := (((2 ^ n : Nat) : Int)).toNat) (fun i H' => Same H1 H' ∧ H' Lc = some (.lst (List.replicate i (V.int 0)))) ⟨same_new hLc, upd_same⟩ (fun i H' hi ⟨sm', hk⟩ => ⟨rfl, _, hk, by rw [List.length_replicate]; exact small1000 (by omega), same_mut sm' hLc, by rw [upd_same, List.replicate_succ']⟩) (fun H2 ⟨sm2, hk⟩ => ?_)
      rw [n0] at hk
      have p1 := pow_pos' n
      refine ⟨_, rfl, Lc, _, _, 0, rfl, rfl, hk, ?_, ?_⟩
      · rw [List.length_replicate]
        unfold ixN
        rw [if_pos (by decide), if_pos (by omega)]
        rfl
      have e0 : (List.replicate (2 ^ n) (V.int 0)).set 0 (.int 1) = ((List.replicate (2 ^ n) (0 : Int)).set 0 1).map V.int := by rw [List.map_set, List.map_replicate]
      rw [e0]
      have hA' : ∀ x y, (x, y) ∈ ar → (1 ≤ x ∧ x ≤ n) := fun x y h => (hO _ h).2.1
      have sm2' : Same H (L2.upd H2 Lc (.lst (((List.replicate (2 ^ n) (0 : Int)).set 0 1).map V.int))) := fun b o e => by
        rw [upd_ne (ne_of_none (sm _ _ e) hLc)]
        exact sm2 _ _ (sm _ _ e)
      refine ⟨_, rfl, _, _, rfl, rfl, cp n hn, ((2 ^ n : Nat) : Int), hv, lo2, hi2, for_range (lo := 0) (n := (((2 ^ n : Nat) : Int)).toNat) (fun j σ H' => j ≤ 2 ^ n ∧ ∃ (cs : List Int) (x3 x5 x6 x7 : Option V), σ = [some (.int n), some (.ref al), some (.ref La), x3, some (.ref Lc), x5, x6, x7, none, none, none] ∧ (∀ b o, b ≠ Lc → H2 b = some o → H' b = some o) ∧ Same H H' ∧
          H' Lc = some (.lst (cs.map V.int)) ∧ Ways n ar j cs) ⟨Nat.zero_le _, _, x3, none, none, none, rfl, (fun b o hb e => by rw [upd_ne hb]; exact e), sm2', upd_same, Ways.start⟩ ?_ ?_⟩
      · rintro j σ H3 hj ⟨_, cs, x3', x5, x6, x7, rfl, sb, sm3, hc3, Wj⟩
        have hj : j < 2 ^ n := by omega
        have gj : (cs.map V.int)[j]? = some (.int (cs.getD j 0)) := got_int Wj.len hj
        have ej : (0 : Int) + (j : Int) = (j : Int) := Int.zero_add _
        refine ⟨_, rfl, _, rfl, Lc, _, _, _, rfl, rfl, SqL.of hc3, at_of ej gj, _, _, rfl, rfl, _, rfl, ite2 (fun q => ?_) (fun q => ?_)⟩
        · have q : 0 < cs.getD j 0 := of_decide_eq_true q
          let c : Nat → Bool := fun a => decide ((j &&& 2 ^ a = 0) ∧ (av a &&& j = av a))
          have hc : ∀ a, a < n → (c a = true ↔ Next ar j a) := fun a _ => by
            rw [next_bits hO hnd]
            exact decide_eq_true_iff
          refine ⟨_, rfl, _, rfl, by omega, by omega, for_range (lo := 0) (n := ((n : Int)).toNat) (fun a σ' H' => a ≤ n ∧ ∃ (cs' : List Int) (x6 x7 : Option V), σ' = [some (.int n), some (.ref al), some (.ref La), x3', some (.ref Lc), some (.int (0 + (j : Int))), x6, x7, none, none, none] ∧ (∀ b o, b ≠ Lc → H2 b = some o → H' b = some o) ∧ Same H H' ∧
              H' Lc = some (.lst (cs'.map V.int)) ∧ WaysAt n ar j a c (cs.getD j 0) cs') ⟨Nat.zero_le _, cs, x6, x7, rfl, sb, sm3, hc3, Wj.enter hA' hj c hc⟩ ?_ ?_⟩
          · rintro a σ' H4 ha ⟨_, cs', x6, x7, rfl, sb4, sm4, hc4, Wa⟩
            have ha : a < n := by omega
            have ea : (0 : Int) + (a : Int) = (a : Int) := Int.zero_add _
            have hL4 : H4 La = some (.lst ((List.range n).map fun i => V.int ((av i : Nat) : Int))) := sb4 _ _ nLac (sm2 _ _ hL1)
            have ga : ((List.range n).map fun i => V.int ((av i : Nat) : Int))[a]? = some (.int ((av a : Nat) : Int)) := by
              rw [List.getElem?_map, List.getElem?_range ha]; rfl
            rw [ea, ej]
            have shA : (1 : Int) * 2 ^ ((a : Int)).toNat = ((2 ^ a : Nat) : Int) := shl_one a
            have t1 : decide (V.int (Builtin.bitAnd (j : Int) (1 * 2 ^ ((a : Int)).toNat)) = V.int 0) = decide (j &&& 2 ^ a = 0) := by
              rw [shA, band]
              by_cases z : j &&& 2 ^ a = 0
              · rw [z]; rfl
              · rw [decide_eq_false z, decide_eq_false fun e => z (by have := V.int.inj e; omega)]
            have t2 : decide (V.int (Builtin.bitAnd ((av a : Nat) : Int) (j : Int)) = V.int ((av a : Nat) : Int)) = decide (av a &&& j = av a) := by
              rw [band]
              by_cases z : av a &&& j = av a
              · rw [z]; simp
              · rw [decide_eq_false z, decide_eq_false fun e => z (by have := V.int.inj e; omega)]
            have skip : c a = false → a + 1 ≤ n ∧ ∃ (cs'' : List Int) (x6' x7' : Option V), ([some (.int n), some (.ref al), some (.ref La), x3', some (.ref Lc), some (.int (j : Int)), some (.int (a : Int)), x7, none, none, none] : St) = [some (.int n), some (.ref al), some (.ref La), x3', some (.ref Lc), some (.int (j : Int)), x6', x7', none, none, none] ∧ (∀ b o, b ≠ Lc → H2 b = some o → H4 b = some o) ∧ Same H H4 ∧
                H4 Lc = some (.lst (cs''.map V.int)) ∧ WaysAt n ar j (a + 1) c (cs.getD j 0) cs'' := fun z => ⟨ha, cs', _, _, rfl, sb4, sm4, hc4, Wa.no ha z⟩
            refine ⟨_, rfl, _, rfl, _, _, rfl, rfl, cp a (by omega), _, _, rfl, rfl, rfl, _, rfl, ?_⟩
            rw [t1]
            refine ite2 (fun z1 => ?_) (fun z1 => iteF ?_)
            · have z1 : j &&& 2 ^ a = 0 := of_decide_eq_true z1
              refine ⟨_, rfl, _, rfl, La, _, _, _, rfl, rfl, SqL.of hL4, atI_nat ga, _, rfl, _, _, rfl, rfl, _, rfl, _, rfl, La, _, _, _, rfl, rfl, SqL.of hL4, atI_nat ga, rfl, _, rfl, ?_⟩
              rw [t2]
              refine ite2 (fun z2 => ?_) (fun z2 => ?_)
              · have z2 : av a &&& j = av a := of_decide_eq_true z2
                have hca : c a = true := decide_eq_true ⟨z1, z2⟩
                obtain ⟨lt, Wy⟩ := Wa.yes hj q ha hca ((no_bit j a).mp z1)
                have or1 : Builtin.bitOr (j : Int) (1 * 2 ^ ((a : Int)).toNat) = (((j ||| 2 ^ a) : Nat) : Int) := by rw [shA, bor]
                have g7 : (cs'.map V.int)[(j ||| 2 ^ a)]? = some (.int (cs'.getD (j ||| 2 ^ a) 0)) := got_int Wa.len lt
                have g5 : (cs'.map V.int)[j]? = some (.int (cs'.getD j 0)) := got_int Wa.len hj
                refine ⟨_, rfl, _, rfl, _, _, rfl, rfl, cp a (by omega), _, _, rfl, rfl, ?_⟩
                refine ⟨_, rfl, _, rfl, Lc, _, _, _, rfl, rfl, SqL.of hc4, at_of or1 g7, _, rfl, _, rfl, Lc, _, _, _, rfl, rfl, SqL.of hc4, atI_nat g5, _, _, rfl, rfl, _, rfl, _, rfl, Lc, _, _, (j ||| 2 ^ a), rfl, rfl, hc4, ?_, ?_⟩
                · rw [or1, List.length_map]
                  exact Evl.ixN_nat (by rw [Wa.len]; exact lt)
                · refine ⟨ha, _, _, _, rfl, (fun b o hb e => by rw [upd_ne hb]; exact sb4 b o hb e), ?_, ?_, Wy⟩
                  · intro b o e
                    rw [upd_ne (ne_of_none (sm _ _ e) hLc)]
                    exact sm4 _ _ e
                  · rw [upd_same, List.map_set, Wa.at_]
              · exact skip (decide_eq_false fun w => z2 (decide_eq_true w.2))
            · exact skip (decide_eq_false fun w => z1 (decide_eq_true w.1))
          · rintro σ' H4 ⟨_, cs', x6, x7, rfl, sb4, sm4, hc4, Wa⟩
            rw [show ((n : Int)).toNat = n by omega] at Wa
            exact ⟨hj, cs', _, _, _, _, rfl, sb4, sm4, hc4, Wa.leave hj⟩
        · have q : ¬ 0 < cs.getD j 0 := by simpa using q
          exact ⟨hj, cs, _, _, _, _, rfl, sb, sm3, hc3, Wj.skip hj q⟩
      · rintro σ H3 ⟨_, cs, x3', x5, x6, x7, rfl, sb, sm3, hc3, Wj⟩
        rw [n0] at Wj
        have gl : (cs.map V.int)[2 ^ n - 1]? = some (.int (cs.getD (2 ^ n - 1) 0)) := got_int Wj.len (by omega)
        refine ⟨_, rfl, _, rfl, _, _, rfl, rfl, cp n hn, _, _, rfl, rfl, Lc, _, _, _, rfl, rfl, SqL.of hc3, at_of (j := 2 ^ n - 1) ?_ gl, ?_⟩
        · rw [hsh]; omega
        · rw [Wj.fin (Nat.le_refl _)]
          exact k H3 sm3
end
end K65

namespace K65
open PySem L2
local macro_rules | `(tactic| walk_at "hs") => `(tactic| with_reducible repeat' first | assumption | exact upd_same | refine upd_keep (by assumption) ?_ | refine upd_oth (by first | assumption | exact Ne.symm (by assumption)) ?_ | refine same_ap (by assumption) ?_ | refine but_ap (by assumption) (by assumption) ?_)
local macro_rules | `(tactic| walk_at "hS") => `(tactic| with_reducible repeat' first | exact Same.refl _ | assumption | refine same_upd ?_ ?_)
/-- lists of numbers stand at rs, none of them where bad says -/
def Lsts (bad : Addr → Prop) (H : Hp) (rs : List Addr) (ls : List (List Int)) : Prop := Paired (fun r l => ¬ bad r ∧ H r = some (.lst (l.map V.int))) rs ls
theorem Lsts.to {bad bad' : Addr → Prop} {H H' : Hp} {rs : List Addr} {ls : List (List Int)} (h : Lsts bad H rs ls) (f : ∀ r o, ¬ bad r → H r = some o → ¬ bad' r ∧ H' r = some o) : Lsts bad' H' rs ls := L2.Paired.mapP h fun _ _ e => f _ _ e.1 e.2
theorem Lsts.app {bad : Addr → Prop} {H : Hp} : ∀ {rs ss : List Addr} {ls ms : List (List Int)}, Lsts bad H rs ls → Lsts bad H ss ms → Lsts bad H (rs ++ ss) (ls ++ ms)
  | _, _, _, _, .nil, h => h
  | _, _, _, _, .cons r t, h => .cons r (Lsts.app t h)
theorem Lsts.unsnoc {bad : Addr → Prop} {H : Hp} : ∀ {rs : List Addr} {ls : List (List Int)} {l : List Int}, Lsts bad H rs (ls ++ [l]) → ∃ rs' r, rs = rs' ++ [r] ∧ Lsts bad H rs' ls ∧ ¬ bad r ∧ H r = some (.lst (l.map V.int))
  | _, [], _, h => by
    cases h with
    | cons r t =>
      cases t
      exact ⟨[], _, rfl, .nil, r⟩
  | _, _ :: ls, _, h => by
    cases h with
    | cons r t =>
      obtain ⟨rs', q, rfl, h1, h2⟩ := Lsts.unsnoc (ls := ls) t
      exact ⟨_ :: rs', q, rfl, .cons r h1, h2⟩
def spLOrders (K : PySem.W.Frag) : Sp := fun vs H Q _ => ∃ (al : Addr) (n : Nat) (ps : List Addr) (ar : Arr), vs = [.int (n : Int), .ref al, .int 121] ∧ SqL K H al (ps.map V.ref) ∧ Arrs H ps ar ∧ n ≤ 8 ∧ ar.length ≤ 11 ∧ ext n ar n [] ≠ [] ∧
  ∀ (H' : Hp) (q : Addr) (rs : List Addr), Same H H' → H q = none → H' q = some (.lst (rs.map V.ref)) → Lsts (fun _ => False) H' rs ((ext n ar n []).take 121) → Q (.ref q) H'
section
variable {P : Program} {w : World} {K : PySem.W.Frag} {mg : Str → Option Value} {base : Heap}
theorem ok_lorders {f fF : Addr} {fd fdF : FuncData} (F : Fun K "_law_first_orders" "_law_first_orders" sLOrders f fd) (GF : FnOk P w K mg base CX0 1 fF fdF ["_law_size", "_law_arrows_here", "_law_placed"] (spLFree K)) (bF : Binds K fdF ["_law_size", "_law_arrows_here", "_law_placed"] [])
    (mF : mg "_law_free" = some (.ref fF)) (kF : PySem.W.keepIn K (.ref fF) = true) (zrange : mg "range" = none) (zlen : mg "len" = none) : FnOk P w K mg base CX0 2 f fd ["_law_size", "_law_arrows_here", "_law_most"] (spLOrders K) := by
  refine F.ok scLOrders (fun vs H Q E h => ?_) (fun cdv A outer s H vs Q E hr h => ?_)
  · obtain ⟨al, n, ps, ar, rfl, _⟩ := h
    rfl
  · obtain ⟨al, n, ps, ar, rfl, hal, hA, hn, hl, hne, k⟩ := h
    refine ⟨_, pss_cons (ps_set (i := 3) scLOrders.nd rfl (.inl rfl) (pe_lst pa_nil))
      (pss_cons (ps_set (i := 4) scLOrders.nd rfl (.inl rfl) (pe_lst (pa_cons (pe_lst pa_nil) pa_nil)))
      (pss_cons (ps_for PassesOwn.never rfl (pi_range1 (by rfl) zrange (pa_cons pe_int pa_nil)) (pg_name (i := 5) scLOrders.nd rfl (.inl rfl))
        (pss_cons (ps_if (PW.pt (pw_or (pt_not (pt_truth (pv 4) (by intro _; rfl))) (pw_or1 (pt_cmpR op_eq (pe_callB call_len_seq (by rfl) zlen b_len (pa_cons (pv 3) pa_nil)) (pv 2) (nomark _))))) (pss_one (ps_ret (pv 3))) pss_nil)
        (pss_cons (ps_set (i := 6) scLOrders.nd rfl (.inr rfl) (pe_bm0 PySem.F.plainAttrs_list PySem.F.slot_list_pop PySem.F.type_list_pop mt_pop (pv 4)))
        (Evl.pss_cut (ps_if (pt_cmpR op_eq (pe_callB call_len_seq (by rfl) zlen b_len (pa_cons (pv 6) pa_nil)) (pv 0) (nomark _)) (pss_one (ps_expr (pe_bm PySem.F.plainAttrs_list PySem.F.slot_list_append PySem.F.type_list_append mt_append (pv 3) (pa_cons (pv 6) pa_nil)))) pss_nil)
        (pss_cons (ps_set (i := 7) scLOrders.nd rfl (.inr rfl) (pe_call GF hr (by rfl) mF kF bF .nil pass0 (pa_cons (pv 0) (pa_cons (pv 1) (pa_cons (pv 6) pa_nil)))))
        (pss_one (ps_expr (pe_bm PySem.F.plainAttrs_list PySem.F.slot_list_extend PySem.F.type_list_extend mt_extend (pv 4) (pa_cons
          (pe_lc (own := [("_law_k", 8)]) (g := gName 8) (tt := tYes) (te := tOp rCat (tVar 6) (tLst (tCons (tOp (rIxL K) (tVar 7) (tOp (rI0 fun i j => .int (i - j)) (tOp (rI0 fun i j => .int (i - j)) (tCB (fun xs H Q => ∃ p ys, xs = [.ref p] ∧ (SqL K H p ys ∨ SqT K H p ys) ∧ Q (.int ys.length) H) (tCons (tVar 7) tNil)) (tC (.int 1))) (tVar 8))) tNil))) (by rfl) scLOrders.nd (pi_range1 (by rfl) zrange (pa_cons (pe_callB call_len_seq (by rfl) zlen b_len (pa_cons (pv 7) pa_nil)) pa_nil)) (blkOk_by (N := ["_law_size", "_law_arrows_here", "_law_most", "_law_found", "_law_waiting", "_law_turn", "_law_order", "_law_free_here", "_law_k"]) (sc := defScope sLOrders) (by decide +kernel))
            (fun _ _ _ _ _ => pg_name (i := 8) scLOrders.nd rfl (Or.inl rfl)) (fun _ _ _ _ _ => pts_nil)
            (fun _ _ _ _ _ => pe_op op_cat (pv 6) (pe_lst (pa_cons (pe_ix ix_list (pv 7) (pe_op op_sub (pe_op op_sub (pe_callB call_len_seq (by rfl) zlen b_len (pa_cons (pv 7) pa_nil)) pe_int) (pv 8)) (fun _ _ => rfl)) pa_nil)))) pa_nil)))))))))
      (pss_one (ps_ret (pv 3))))), ?_⟩
    refine ⟨Nat.zero_le _, fun Fo hFo => ?_⟩
    refine ⟨Nat.zero_le _, fun e hE => ?_⟩
    refine ⟨(show 1 ≤ sizeLine by decide), fun Wt hWt => ?_⟩
    have hE1 : H e = none := none_upd hE
    have hW1 : H Wt = none := none_upd (none_upd hWt)
    have nFe : Fo ≠ e := ne_of_none upd_same hE
    have neW : e ≠ Wt := ne_of_none upd_same hWt
    have nFW : Fo ≠ Wt := ne_of_none (upd_keep hE upd_same) hWt
    let bad : Addr → Prop := fun r => r = Fo ∨ r = Wt
    refine ⟨_, rfl, by decide, by decide, for_range (lo := 0) (n := ((4000 : Int)).toNat) (fun i σ H' => ∃ (fs ws : List (List Int)) (fr wr : List Addr) (x5 x6 x7 : Option V), σ = [some (.int n), some (.ref al), some (.int 121), some (.ref Fo), some (.ref Wt), x5, x6, x7, none] ∧ Same H H' ∧
      H' Fo = some (.lst (fr.map V.ref)) ∧ H' Wt = some (.lst (wr.map V.ref)) ∧ Lsts bad H' fr fs ∧ Lsts bad H' wr ws ∧ Dfs n ar i fs ws ∧ fs.length ≤ 121 ∧ ws.length ≤ 1 + 8 * i) ⟨[], [[]], [], [e], none, none, none, rfl, by walk_at "hS", upd_keep hWt (upd_keep hE upd_same), upd_same, .nil, .cons ⟨fun z => z.elim (fun z => nFe z.symm) neW, upd_keep hWt upd_same⟩ .nil, Dfs.start, Nat.zero_le _, Nat.le_refl _⟩ ?_ ?_⟩
    · rintro i σ H1 hi ⟨fs, ws, fr, wr, x5, x6, x7, rfl, sm, hF1, hW, lF, lW, D, hf, hw⟩
      have hi : i < 4000 := hi
      have flen : fr.length = fs.length := lF.length
      have wlen : wr.length = ws.length := lW.length
      show tOr _ _ _ H1 _
      refine by_test (decide (ws = [] ∨ fs.length = 121)) (fun R hR => ?_) ?_
      · refine ⟨_, rfl, _, .inl ⟨_, SqL.of hW, rfl⟩, ?_⟩
        by_cases hws : ws = []
        · have : wr = [] := List.eq_nil_of_length_eq_zero (by rw [wlen, hws]; rfl)
          rw [decide_eq_true (.inl hws)] at hR
          subst this
          exact hR
        · obtain ⟨a, wr', rfl⟩ : ∃ a wr', wr = a :: wr' := by
            cases wr with
            | nil => exact absurd (List.eq_nil_of_length_eq_zero wlen.symm) hws
            | cons a r => exact ⟨a, r, rfl⟩
          refine ⟨_, rfl, Fo, _, rfl, .inl (SqL.of hF1), _, rfl, rfl, _, rfl, ?_⟩
          have : decide (V.int ((fr.map V.ref).length : Nat) = V.int 121) = decide (ws = [] ∨ fs.length = 121) := by
            rw [List.length_map, flen]
            refine decide_eq_decide.mpr ⟨fun q => .inr (by have := V.int.inj q; omega), fun q => ?_⟩
            rcases q with q | q
            · exact absurd q hws
            · rw [q]; rfl
          rw [← this] at hR
          exact hR
      by_cases hend : ws = [] ∨ fs.length = 121
      · rw [decide_eq_true hend]
        refine iteT ⟨_, rfl, ?_⟩
        have := D.done hf hend
        refine k H1 Fo fr sm hFo hF1 ?_
        rw [← this]
        exact lF.to fun r o _ e => ⟨fun z => z, e⟩
      rw [decide_eq_false hend]
      refine iteF ?_
      obtain ⟨ws', p, rfl⟩ : ∃ ws' p, ws = ws' ++ [p] := by
        rcases List.eq_nil_or_concat ws with h | ⟨a, b, h⟩
        · exact absurd (.inl h) hend
        · exact ⟨a, b, by rw [h, List.concat_eq_append]⟩
      have hf2 : fs.length < 121 := by
        have : fs.length ≠ 121 := fun z => hend (.inr z)
        omega
      obtain ⟨wr', r, rfl, lW', br, hr1⟩ := lW.unsnoc
      have nrF : r ≠ Fo := fun z => br (.inl z)
      have nrW : r ≠ Wt := fun z => br (.inr z)
      have hlast : ((wr' ++ [r]).map V.ref)[((wr' ++ [r]).map V.ref).length - 1]? = some (.ref r) := by simp
      refine ⟨_, rfl, .inl ⟨rfl, _, SqL.of hW⟩, Wt, _, .ref r, rfl, rfl, hW, hlast, ?_⟩
      have hdl : ((wr' ++ [r]).map V.ref).dropLast = wr'.map V.ref := by simp
      rw [hdl]
      -- after the pop
      have D2 := D.turn hne
      have gp : Good n ar p := D.good p (List.mem_append_right _ List.mem_cons_self)
      have sm2 : Same H (L2.upd H1 Wt (.lst (wr'.map V.ref))) := same_mut sm hW1
      refine ⟨fun σ' H' => σ' = [some (.int n), some (.ref al), some (.int 121), some (.ref Fo), some (.ref Wt), some (.int (0 + (i : Int))), some (.ref r), x7, none] ∧ Same H H' ∧ ∃ fr', H' Fo = some (.lst (fr'.map V.ref)) ∧ H' Wt = some (.lst (wr'.map V.ref)) ∧ Lsts bad H' fr' (if p.length = n then fs ++ [p] else fs) ∧ Lsts bad H' wr' ws' ∧ H' r = some (.lst (p.map V.int)), ?_, ?_⟩
      · have hr2 : L2.upd H1 Wt (.lst (wr'.map V.ref)) r = some (.lst (p.map V.int)) := by walk_at "hs"
        have hF2 : L2.upd H1 Wt (.lst (wr'.map V.ref)) Fo = some (.lst (fr.map V.ref)) := by walk_at "hs"
        have lF2 : Lsts bad (L2.upd H1 Wt (.lst (wr'.map V.ref))) fr fs := lF.to fun a o b e => ⟨b, by rw [upd_ne (fun z => b (.inr z))]; exact e⟩
        have lW2 : Lsts bad (L2.upd H1 Wt (.lst (wr'.map V.ref))) wr' ws' := lW'.to fun a o b e => ⟨b, by rw [upd_ne (fun z => b (.inr z))]; exact e⟩
        refine ⟨_, rfl, r, _, rfl, .inl (SqL.of hr2), _, rfl, rfl, _, rfl, ite2 (fun q => ?_) (fun q => ?_)⟩
        · have q : p.length = n := by have := V.int.inj (of_decide_eq_true q); rw [List.length_map] at this; omega
          refine ⟨_, rfl, .inl ⟨rfl, _, SqL.of hF2⟩, _, rfl, Fo, _, _, rfl, rfl, hF2, by rw [List.length_map, flen]; exact small1000 (by omega), ?_⟩
          refine ⟨rfl, same_mut sm2 hFo, fr ++ [r], by rw [upd_same, List.map_append]; rfl, by walk_at "hs", ?_, ?_, by walk_at "hs"⟩
          · rw [if_pos q]
            have l1 : Lsts bad (L2.upd (L2.upd H1 Wt (.lst (wr'.map V.ref))) Fo (.lst (fr.map V.ref ++ [V.ref r]))) fr fs := lF2.to fun a o b e => ⟨b, by rw [upd_ne (fun z => b (.inl z))]; exact e⟩
            exact l1.app (.cons ⟨br, by rw [upd_ne nrF]; exact hr2⟩ .nil)
          · exact lW2.to fun a o b e => ⟨b, by rw [upd_ne (fun z => b (.inl z))]; exact e⟩
        · have q : ¬ p.length = n := fun z => q (decide_eq_true (by rw [List.length_map, z]))
          refine ⟨rfl, sm2, fr, hF2, upd_same, ?_, lW2, hr2⟩
          rw [if_neg q]
          exact lF2
      rintro σ' H3 ⟨rfl, sm3, fr', hF3, hW3, lF3, lW3, hr3⟩
      have hA3 : Arrs H3 ps ar := hA.same fun _ _ e => sm3 _ _ e
      refine ⟨_, rfl, _, rfl, _, rfl, al, r, n, ps, ar, p, rfl, sm3.seq hal, hA3, .inl (SqL.of hr3), hn, hl, fun H4 fl sm4 fl0 h4 => ?_⟩
      have fl8 := free_len n ar p
      have hF4 : H4 Fo = some (.lst (fr'.map V.ref)) := sm4 _ _ hF3
      have hW4 : H4 Wt = some (.lst (wr'.map V.ref)) := sm4 _ _ hW3
      have hr4 := sm4 _ _ hr3
      have sm04 := sm3.trans sm4
      refine ⟨_, rfl, .inl ⟨rfl, _, SqL.of hW4⟩, _, rfl, fl, _, rfl, .inl (SqL.of h4), _, rfl, by rw [List.length_map]; omega, by rw [List.length_map]; omega, fun Dn hDn => ?_⟩
      let bad2 : Addr → Prop := fun a => bad a ∨ a = Dn
      let nw : List (List Int) := (free n ar p).reverse.map fun v => p ++ [v]
      have nlen : nw.length = (free n ar p).length := by show (List.map _ _).length = _; rw [List.length_map, List.length_reverse]
      have e4 : (((free n ar p).map V.int).length : Int).toNat = nw.length := by rw [List.length_map, nlen]; omega
      refine lc_range (lo := 0) (n := (((free n ar p).map V.int).length : Int).toNat) (fun j H' => ∃ rs, Same H4 H' ∧ H' Dn = some (.lst (rs.map V.ref)) ∧ Lsts bad2 H' rs (nw.take j)) ⟨[], same_new hDn, upd_same, .nil⟩ ?_ ?_
      · rintro j H5 hj ⟨rs, sm5, hD5, l5⟩
        rw [e4] at hj
        have hj2 : (free n ar p).length - 1 - j < (free n ar p).length := by omega
        have gx : ((free n ar p).map V.int)[(free n ar p).length - 1 - j]? = some (.int (free n ar p)[(free n ar p).length - 1 - j]) := by rw [List.getElem?_map, List.getElem?_eq_getElem hj2]; rfl
        refine ⟨rfl, _, rfl, _, rfl, _, rfl, fl, _, rfl, .inl (SqL.of (sm5 _ _ h4)), _, _, rfl, rfl, _, rfl, _, _, rfl, rfl, fl, _, _, _, rfl, rfl, SqL.of (sm5 _ _ h4), at_of (j := (free n ar p).length - 1 - j) ?_ gx, ?_⟩
        · rw [List.length_map]; omega
        · refine ⟨(show 1 ≤ sizeLine by decide), fun t ht => ?_⟩
          have hr5 : L2.upd H5 t (.lst [V.int (free n ar p)[(free n ar p).length - 1 - j]]) r = some (.lst (p.map V.int)) := upd_keep ht (sm5 _ _ hr4)
          refine ⟨r, t, _, _, rfl, rfl, hr5, upd_same, ?_, fun nl hnl => ?_⟩
          · rw [List.length_map]; have := gp.len; show _ + 1 ≤ 2 ^ 24; omega
          · have rlen : rs.length = (nw.take j).length := l5.length
            have hD6 : L2.upd (L2.upd H5 t (.lst [V.int (free n ar p)[(free n ar p).length - 1 - j]])) nl (.lst (p.map V.int ++ [V.int (free n ar p)[(free n ar p).length - 1 - j]])) Dn = some (.lst (rs.map V.ref)) := upd_keep hnl (upd_keep ht hD5)
            have nnD : nl ≠ Dn := fun z => by rw [z] at hnl; rw [upd_keep ht hD5] at hnl; cases hnl
            refine ⟨_, hD6, ?_, rs ++ [nl], ?_, ?_, ?_⟩
            · rw [List.length_map, rlen, List.length_take]; exact small1000 (by omega)
            · exact same_mut ((sm5.trans (same_new ht)).trans (same_new hnl)) hDn
            · rw [upd_same, List.map_append]; rfl
            · have ew : nw[j]? = some (p ++ [(free n ar p)[(free n ar p).length - 1 - j]]) := by
                show (List.map _ _)[j]? = _
                rw [List.getElem?_map, List.getElem?_reverse (by omega), List.getElem?_eq_getElem hj2]
                rfl
              rw [List.take_add_one, ew]
              have l6 : Lsts bad2 (L2.upd (L2.upd (L2.upd H5 t (.lst [V.int (free n ar p)[(free n ar p).length - 1 - j]])) nl (.lst (p.map V.int ++ [V.int (free n ar p)[(free n ar p).length - 1 - j]]))) Dn (.lst (rs.map V.ref ++ [V.ref nl]))) rs (nw.take j) := l5.to fun a o b e => ⟨b, by rw [upd_ne (fun z => b (.inr z))]; exact upd_keep hnl (upd_keep ht e)⟩
              refine l6.app (.cons ⟨?_, ?_⟩ .nil)
              · rintro ((z | z) | z)
                · rw [z] at hnl; rw [upd_keep ht (sm5 _ _ hF4)] at hnl; cases hnl
                · rw [z] at hnl; rw [upd_keep ht (sm5 _ _ hW4)] at hnl; cases hnl
                · exact nnD z
              · rw [upd_ne nnD, upd_same, List.map_append]; rfl
      · rintro H5 ⟨rs, sm5, hD5, l5⟩
        rw [e4, List.take_length] at l5
        have hW5 := sm5 _ _ hW4
        have rlen : rs.length = nw.length := l5.length
        have wl' : wr'.length + 1 = (ws' ++ [p]).length := by rw [← wlen, List.length_append]; rfl
        refine ⟨Wt, Dn, _, _, rfl, rfl, hW5, hD5, ?_, ?_⟩
        · rw [List.length_map, List.length_map]
          show _ ≤ 2 ^ 24
          omega
        · have sm05 := sm04.trans sm5
          refine ⟨_, ws' ++ nw, fr', wr' ++ rs, _, _, _, rfl, same_mut sm05 hW1, ?_, ?_, ?_, ?_, D2, ?_, ?_⟩
          · rw [upd_ne nFW]; exact sm5 _ _ hF4
          · rw [upd_same, List.map_append]
          · exact lF3.to fun a o b e => ⟨b, by rw [upd_ne (fun z => b (.inr z))]; exact sm5 _ _ (sm4 _ _ e)⟩
          · have l7 : Lsts bad H5 wr' ws' := lW3.to fun a o b e => ⟨b, sm5 _ _ (sm4 _ _ e)⟩
            exact (l7.app (l5.to fun a o b e => ⟨fun z => b (.inl z), e⟩)).to fun a o b e => ⟨b, by rw [upd_ne (fun z => b (.inr z))]; exact e⟩
          · split
            · rw [List.length_append, List.length_singleton]; omega
            · exact hf
          · rw [List.length_append, nlen]
            rw [List.length_append, List.length_singleton] at hw
            omega
    · rintro σ H1 ⟨fs, ws, fr, wr, x5, x6, x7, rfl, sm, hF1, hW, lF, lW, D, hf, hw⟩
      have t := D.top_le
      have t : 4000 ≤ (n + 1) * fs.length + n := t
      have : (n + 1) * fs.length ≤ 9 * 121 := Nat.mul_le_mul (by omega) hf
      omega
end
end K65

/-! A generator that sleeps while its consumer works: its context is made anew at each waking, over the heap cut off at the size that it had at the generator's call. -/
namespace K65
open PySem L2
/-- the part of a heap below k -/
def cut (h : Heap) (k : Nat) : Heap := { h with objs := h.objs.extract 0 k }
theorem cut_size {h : Heap} {k : Nat} (hk : k ≤ h.objs.size) : (cut h k).objs.size = k := by
  show (h.objs.extract 0 k).size = k
  rw [Array.size_extract]
  omega
theorem cut_get {h : Heap} {k b : Nat} (hb : b < k) : (cut h k).get? b = h.get? b := by
  have e : (cut h k).objs[b]? = h.objs[b]? := by
    show (h.objs.extract 0 k)[b]? = _
    rw [Array.getElem?_extract]
    by_cases q : b < h.objs.size
    · rw [if_pos (by omega), Nat.zero_add]
    · rw [if_neg (by omega), Array.getElem?_eq_none (by omega)]
  unfold Heap.get?
  rw [e]
theorem cut_old {h : Heap} {k b : Nat} {o : Obj} (hk : k ≤ h.objs.size) (e : (cut h k).get? b = some o) : b < k ∧ h.get? b = some o := by
  have hb := Heap.lt_size e
  rw [cut_size hk] at hb
  exact ⟨hb, by rwa [cut_get hb] at e⟩
/-- what is tracked below k -/
def cutH (H : Hp) (k : Nat) : Hp := fun b => if b < k then H b else none
theorem cutH_at {H : Hp} {k b : Nat} (h : b < k) : cutH H k b = H b := if_pos h
theorem cutH_le {H : Hp} {k b : Nat} {o : HO} (e : cutH H k b = some o) : H b = some o := by
  unfold cutH at e
  split at e
  · exact e
  · cases e
theorem frames_cut {h base : Heap} {k : Nat} : ∀ {l : List Env}, h.FunFrames base l → (∀ b ∈ frs l, b < k) → (cut h k).FunFrames base l
  | [], _, _ => trivial
  | env :: rest, hl, hb => by
    obtain ⟨h1, ⟨L, o, h2, h3, h4, h5⟩, h6⟩ := hl
    have e : frs (env :: rest) = L :: frs rest := by unfold frs; rw [List.filterMap_cons, h2]
    rw [e] at hb
    exact ⟨h1, ⟨L, o, h2, h3, by rw [cut_get (hb L List.mem_cons_self)]; exact h4, h5⟩, frames_cut h6 fun b z => hb b (List.mem_cons_of_mem _ z)⟩
/-- the generator's frame: it was laid at k, its consumer's frame lies below -/
structure GEnv (X : Cx) (ge : Env) (k : Nat) : Prop where
  kind : ge.scope.kind = .function
  glob : ge.globals = mainGlobals
  blt : ge.builtins = builtinsNs
  frame : ge.frame = some ge.locals
  at_ : ge.locals = k
  cells : ge.cells = []
  nocell : ∀ x, ge.kindOf x ≠ some .cell ∧ ge.kindOf x ≠ some .free
  own : X.env.locals < k
  s0 : X.s_0.heap.objs.size ≤ k
  cl : ∀ x c, X.env.cells.lookup x = some c → c < k
def genX (X : Cx) (N : List Str) (ge : Env) (A : Around) (k : Nat) (s : Shared) (H : Hp) : Cx :=
  { X with A := A, N := N, s_0 := { s with heap := cut s.heap k }, H_0 := cutH H k, env := ge, outer := X.stack, stack := ge :: X.stack, ex := [], fn := fun _ => true, calm := true, pn := [], xe := fun _ _ => False }
section
variable {X : Cx} {ge : Env} {k : Nat} {N : List Str} {A : Around} {pins ip : List (Addr × Obj)} {σ τ : L2.St} {H H1 : Hp} {s s1 : Shared}
theorem GEnv.frs_lt (G : GEnv X ge k) (I : Inv X pins σ H s) : ∀ b ∈ frs X.stack, b < k := fun b hb => by
  rcases List.mem_cons.mp (I.stkSub b hb) with z | z
  · rw [z]; exact G.own
  · obtain ⟨_, o, ho, _⟩ := I.ok.funs.mem z
    exact Nat.lt_of_lt_of_le (Heap.lt_size ho) G.s0
/-- at a waking: the generator's context over the state as it is -/
theorem inv_wake (I : Inv X pins σ H s) (G : GEnv X ge k) (hh : A.handled = none) (hfr : A.frames = some (ge :: X.stack)) (hk : k ≤ s.heap.objs.size) {m : Str → Option Value} (hn : s.heap.Ns ge.locals m) (hτ : ∀ (i : Nat) (x : Str) (v : V), N[i]? = some x → τ[i]? = some (some v) → Vis ge.scope x → ∃ u, RelV v u ∧ ge.kindOf x = some .local ∧ m x = some u)
    (hH : H ge.locals = none) (hl : τ.length = N.length) (hp : ∀ p ∈ ip, s.heap.get? p.1 = some p.2 ∧ H p.1 = none ∧ p.1 ≠ ge.locals ∧ k ≤ p.1 ∧ ∀ v, p.2.data ≠ .cell v) : Inv (genX X N ge A k s H) ip τ H s where
  ok := {
    mod := I.ok.mod
    kind := G.kind
    glob := G.glob
    blt := G.blt
    above := by
      show (cut s.heap k).objs.size ≤ ge.locals
      rw [cut_size hk, G.at_]; exact Nat.le_refl _
    inj := fun x y c h1 _ => by
      have h1 : ge.cells.lookup x = some c := h1
      rw [G.cells] at h1; cases h1
    has := fun x h => h.elim (fun z => absurd z (G.nocell x).1) fun z => absurd z (G.nocell x).2
    cab := fun x c _ h1 => by
      have h1 : ge.cells.lookup x = some c := h1
      rw [G.cells] at h1; cases h1
    hd := fun _ => hh
    frames := hfr
    stk := .inr ⟨rfl, G.frame⟩
    exf := fun b hb => by cases hb
    bs := fun b o e => by
      obtain ⟨h1, h2⟩ := I.bs b o e
      have hb : b < k := Nat.lt_of_lt_of_le (Heap.lt_size e) (Nat.le_trans I.ok.bsz G.s0)
      exact ⟨by show (cut s.heap k).get? b = _; rw [cut_get hb]; exact h1, by show cutH H k b = none; rw [cutH_at hb]; exact h2⟩
    bsz := by
      show _ ≤ (cut s.heap k).objs.size
      rw [cut_size hk]; exact Nat.le_trans I.ok.bsz G.s0
    noex := fun b o _ hb => by cases hb
    exfs := fun b hb => by cases hb
    funs := frames_cut I.stack (G.frs_lt I)
    frf := fun b hb => by
      show cutH H k b = none
      rw [cutH_at (G.frs_lt I b hb)]; exact I.stkFree b hb }
  os := rfl
  bare := I.bare
  base := {
    keep := fun b o e _ _ _ => (cut_old hk e).2
    slot := fun b o e _ _ _ => ⟨o.slots, (cut_old hk e).2⟩
    free := fun b o e n _ => by
      have n : cutH H k b = none := n
      rwa [cutH_at (cut_old hk e).1] at n
    there := fun b o e _ => ⟨o, (cut_old hk e).2⟩
    tups := fun b xs e => cutH_le e
    frzs := fun b o u e => cutH_le e
    tbls := fun b ps e => ⟨#[], by rw [cutH_le e]; simp⟩ }
  loc := ⟨m, hn, fun i x v h1 h2 h3 => by
    obtain ⟨u, r, hk2, e⟩ := hτ i x v h1 h2 h3
    exact ⟨u, r, .inl ⟨hk2, e⟩⟩⟩
  cell := fun x c h1 => by
    have h1 : ge.cells.lookup x = some c := h1
    rw [G.cells] at h1; cases h1
  free := hH
  freeC := fun x c h1 => by
    have h1 : ge.cells.lookup x = some c := h1
    rw [G.cells] at h1; cases h1
  pin := fun p hpp => by
    rcases List.mem_append.mp hpp with z | z
    · cases z
    · obtain ⟨h1, h2, h3, h4, h5⟩ := hp p z
      exact ⟨h1, h2, h3, fun w => absurd (G.frs_lt I _ w) (Nat.not_lt.mpr h4), h5⟩
  hok := I.hok
  len := hl
/-- when it sleeps again, or ends: the consumer's context -/
theorem inv_back (I : Inv X pins σ H s) (G : GEnv X ge k) (hk : k ≤ s.heap.objs.size) (J : Inv (genX X N ge A k s H) ip τ H1 s1) (sm : Same H H1) (hp : ∀ p ∈ X.pn ++ pins, p.1 < k) : Inv X pins σ H1 s1 := by
  have below : ∀ b, b ∉ List.range' k (s.heap.objs.size - k) → ∀ o, s.heap.get? b = some o → b < k := fun b hb o e => by
    have h1 : b < s.heap.objs.size := Heap.lt_size e
    apply Classical.byContradiction
    intro h2
    exact hb (List.mem_range'_1.mpr ⟨Nat.not_lt.mp h2, by have := Nat.not_lt.mp h2; show b < k + (s.heap.objs.size - k); rw [Nat.add_sub_cancel' hk]; exact h1⟩)
  have cg : ∀ b o, s.heap.get? b = some o → b < k → (genX X N ge A k s H).s_0.heap.get? b = some o := fun b o e hb => by
    show (cut s.heap k).get? b = _
    rw [cut_get hb]; exact e
  have ch : ∀ b, H b = none → (genX X N ge A k s H).H_0 b = none := fun b e => by
    show cutH H k b = none
    unfold cutH
    split
    · exact e
    · rfl
  refine I.call' (ch := List.range' k (s.heap.objs.size - k)) J.os ⟨fun b o e n hb hx => ?_, fun b o e n hb hx => ?_, fun b o e n hx => ?_, fun b o e hx => ?_, fun b xs e => sm _ _ e, fun b o u e => sm _ _ e, fun b ps e => ⟨#[], by rw [sm _ _ e]; simp⟩⟩ J.hok J.bare fun b hb => ?_
  · exact J.base.keep b o (cg b o e (below b hx o e)) (ch b n) hb (fun z => by cases z)
  · exact J.base.slot b o (cg b o e (below b hx o e)) (ch b n) hb (fun z => by cases z)
  · exact J.base.free b o (cg b o e (below b hx o e)) (ch b n) (fun z => by cases z)
  · exact J.base.there b o (cg b o e (below b hx o e)) (fun z => by cases z)
  · have h1 : k ≤ b := (List.mem_range'_1.mp hb).1
    exact ⟨.inr (Nat.le_trans G.s0 h1), fun z => absurd G.own (Nat.not_lt.mpr (by rw [← z]; exact h1)), fun x c e z => absurd (G.cl x c e) (Nat.not_lt.mpr (by rw [z]; exact h1)), fun p hpp z => absurd (hp p hpp) (Nat.not_lt.mpr (by rw [z]; exact h1))⟩
/-- the frame's object and the generator's are pinned for the consumer -/
theorem inv_pin (I : Inv X pins σ H s) (G : GEnv X ge k) {qs : List (Addr × Obj)} (hq : ∀ p ∈ qs, s.heap.get? p.1 = some p.2 ∧ H p.1 = none ∧ k ≤ p.1 ∧ ∀ v, p.2.data ≠ .cell v) : Inv X (qs ++ pins) σ H s := by
  refine I.pins_of fun p hp => ?_
  rcases List.mem_append.mp hp with z | z
  · obtain ⟨h1, h2, h3, h4⟩ := hq p z
    refine ⟨h1, h2, fun w => absurd G.own (Nat.not_lt.mpr (by rw [← w]; exact h3)), fun w => ?_, h4⟩
    obtain ⟨_, o, ho, _⟩ := I.ok.funs.mem w
    exact absurd (Nat.lt_of_lt_of_le (Heap.lt_size ho) G.s0) (Nat.not_lt.mpr h3)
  · exact I.pin p (List.mem_append_right _ z)
/-- only the table of generators changes -/
theorem inv_gens (I : Inv X pins σ H s) {g' : Array GenState} (hb : PyProof.Rows.AllBare g') : Inv X pins σ H { s with gens := g' } :=
  I.call' (ch := []) rfl Un.refl I.hok hb fun b z => by cases z
/-- a local is stored; the state told -/
theorem inv_store (I : Inv X pins σ H s) (hN : X.N.Nodup) {i : Nat} {x : Str} {v : V} {u : Value} {m : Str → Option Value} {h' : Heap} {t' : Nat} (hi : X.N[i]? = some x) (hx : X.env.kindOf x = some .local) (r : RelV v u) (hn : s.heap.Ns X.env.locals m) (hn' : h'.Ns X.env.locals (fun y => if y = x then some u else m y)) (hs : Heap.SameBut X.env.locals s.heap h') :
    Inv X pins (σ.set i (some v)) H { s with heap := h', toks := t' } := by
  obtain ⟨m0, hn0, hl⟩ := id I.loc
  have em : ∀ y, m0 y = m y := fun y => by
    obtain ⟨o1, e1, p1, a1, b1, _, d1⟩ := hn0
    obtain ⟨o2, e2, p2, a2, b2, _, d2⟩ := hn
    rw [a1] at a2; cases a2
    rw [b1] at b2; cases b2
    rw [← d1, ← d2]
  have hiσ : i < σ.length := by rw [I.len]; exact (List.getElem?_eq_some_iff.mp hi).1
  have old : ∀ b o, X.s_0.heap.get? b = some o → b ≠ X.env.locals := fun b o e => Nat.ne_of_lt (Nat.lt_of_lt_of_le (Heap.lt_size e) I.ok.above)
  have nl : ∀ b o, H b = some o → b ≠ X.env.locals := fun b o e z => by rw [z, I.free] at e; cases e
  exact {
    ok := I.ok
    os := I.os
    bare := I.bare
    base := {
      keep := fun b o e n hb hx => (hs.2 b (old b o e)).trans (I.base.keep b o e n hb hx)
      slot := fun b o e n hb hx => let ⟨sl, q⟩ := I.base.slot b o e n hb hx; ⟨sl, (hs.2 b (old b o e)).trans q⟩
      free := I.base.free
      there := fun b o e hx => let ⟨o', q⟩ := I.base.there b o e hx; ⟨o', (hs.2 b (old b o e)).trans q⟩
      tups := I.base.tups
      frzs := I.base.frzs
      tbls := I.base.tbls }
    loc := ⟨_, hn', fun j y w e1 e2 e3 => by
      by_cases hj : j = i
      · subst hj
        rw [hi] at e1
        cases e1
        rw [List.getElem?_set_self hiσ] at e2
        cases e2
        exact ⟨u, r, .inl ⟨hx, if_pos rfl⟩⟩
      · rw [List.getElem?_set_ne (Ne.symm hj)] at e2
        obtain ⟨w', r', q⟩ := hl j y w e1 e2 e3
        refine ⟨w', r', ?_⟩
        rcases q with ⟨k1, e⟩ | ⟨k1, c, e, z⟩
        · refine .inl ⟨k1, ?_⟩
          show (if y = x then some u else m y) = some w'
          rw [if_neg (fun (z : y = x) => hj (nodup_ix hN e1 (by rw [z]; exact hi))), ← em]
          exact e
        · exact .inr ⟨k1, c, e, z.sameBut hs (I.cne y c e)⟩⟩
    cell := fun y c e => let ⟨w', z⟩ := I.cell y c e; ⟨w', z.sameBut hs (I.cne y c e)⟩
    free := I.free
    freeC := I.freeC
    pin := fun p hp => let ⟨h1, h2, h3, h4, h5⟩ := I.pin p hp; ⟨(hs.2 p.1 h3).trans h1, h2, h3, h4, h5⟩
    hok := fun b o e => (I.hok b o e).stay (fun c w' hc q => (hs.2 c (by
      rcases hc with rfl | hc
      · exact nl _ _ e
      · exact nl _ _ hc)).trans q) (fun _ q => q) fun _ _ q => q
    len := by simpa using I.len }
end
end K65

namespace K65
open PySem L2
def whTest : Stmt → Expr
  | .While t _ _ _ => t
  | _ => .Constant .none 0 ⟨0, 0, 0, 0⟩
def whBody : Stmt → List Stmt
  | .While _ b _ _ => b
  | _ => []
def whPos : Stmt → Pos
  | .While _ _ _ p => p
  | _ => ⟨0, 0, 0, 0⟩
def yiExpr : Stmt → Expr
  | .Expr (.Yield (some e) _) _ => e
  | _ => .Constant .none 0 ⟨0, 0, 0, 0⟩
def yiPos : Stmt → Pos
  | .Expr (.Yield (some _) p) _ => p
  | _ => ⟨0, 0, 0, 0⟩
def exPos : Stmt → Pos
  | .Expr _ p => p
  | _ => ⟨0, 0, 0, 0⟩
abbrev oBody : List Stmt := defBody sOrders
abbrev oFirst : Stmt := oBody.getD 0 (.Pass ⟨0, 0, 0, 0⟩)
abbrev oWhile : Stmt := oBody.getD 1 (.Pass ⟨0, 0, 0, 0⟩)
abbrev oTest : Expr := whTest oWhile
abbrev oYield : Stmt := (whBody oWhile).getD 0 (.Pass ⟨0, 0, 0, 0⟩)
abbrev oNext : Stmt := (whBody oWhile).getD 1 (.Pass ⟨0, 0, 0, 0⟩)
theorem oBody_eq : oBody = [oFirst, .While oTest [.Expr (.Yield (some (yiExpr oYield)) (yiPos oYield)) (exPos oYield), oNext] [] (whPos oWhile)] := rfl
abbrev oN : List Str := ["graph", "order"]
theorem oNd : oN.Nodup := by decide +kernel
abbrev oEnv (k : Nat) (f : Addr) (cd : Value) : Env := PyProof.Rows.envOfC "orders" (defScope sOrders) k f cd
theorem oScope : (defScope sOrders).kind = .function ∧ (defScope sOrders).isCoroutine = false ∧ (defScope sOrders).isGenerator = true := ⟨rfl, rfl, rfl⟩
section
variable {X : Cx} {A : Around} {k : Nat} {f : Addr} {cd : Value} {s : Shared} {H : Hp} {C fF fN : Addr} {fdF fdN : FuncData}
theorem o_first (hr : Room 3 A) (GF : FnOk X.prog X.w X.K X.mg X.base CX0 3 fF fdF ["graph"] (spFirst X.K C)) (bF : Binds X.K fdF ["graph"] []) (mF : X.mg "first_order" = some (.ref fF)) (kF : PySem.W.keepIn X.K (.ref fF) = true) :
    PS (genX X oN (oEnv k f cd) A k s H) oFirst (tAsg (tCall (spFirst X.K C) [] E0 (tCons (tVar 0) tNil)) (gName 1)) := ps_set (i := 1) oNd rfl (.inl rfl) (pe_call (X := genX X oN (oEnv k f cd) A k s H) GF hr (by rfl) mF kF bF .nil pass0 (pa_cons (pv 0) pa_nil))
theorem o_next (hr : Room 3 A) (GN : FnOk X.prog X.w X.K X.mg X.base CX0 3 fN fdN ["graph", "order"] (spNext X.K C)) (bN : Binds X.K fdN ["graph", "order"] []) (mN : X.mg "next_order" = some (.ref fN)) (kN : PySem.W.keepIn X.K (.ref fN) = true) :
    PS (genX X oN (oEnv k f cd) A k s H) oNext (tAsg (tCall (spNext X.K C) [] E0 (tCons (tVar 0) (tCons (tVar 1) tNil))) (gName 1)) := ps_set (i := 1) oNd rfl (.inl rfl) (pe_call (X := genX X oN (oEnv k f cd) A k s H) GN hr (by rfl) mN kN bN .nil pass0 (pa_cons (pv 0) (pa_cons (pv 1) pa_nil)))
theorem o_test : PT (genX X oN (oEnv k f cd) A k s H) oTest (tTest (tOp (fun x y H Q => y = .non ∧ Q (.bl (!decide (x = .non))) H) (tVar 1) (tC .non))) := pt_cmpR op_notN (pv 1) pe_non (nomark _)
theorem o_yield (zlist : X.mg "list" = none) : PE (genX X oN (oEnv k f cd) A k s H) (yiExpr oYield) (tCB (fun xs H Q => ∃ p ys, xs = [.ref p] ∧ (SqL X.K H p ys ∨ SqT X.K H p ys) ∧ ∀ l, H l = none → Q (.ref l) (L2.upd H l (.lst ys))) (tCons (tVar 1) tNil)) := pe_callTy call_list_of (by rfl) zlist b_list (pa_cons (pv 1) pa_nil)
end
end K65

namespace K65
open PySem L2 GenW
section
variable {X : Cx} {pins : List (Addr × Obj)} {k : Nat} {f : Addr} {cd : Value} {ga : Addr} {go : Obj} {C g : Addr} {n : Nat} {ar : Arr} {PP : Nat → L2.St → Hp → Prop}
/-- an order is handed out; the consumer then may do what leaves PP -/
def yO (X : Cx) (pins : List (Addr × Obj)) (k : Nat) (ga : Addr) (go : Obj) (E : List (List Int)) (PP : Nat → L2.St → Hp → Prop) : Protocol := fun m _ v s1 kap =>
  1 ≤ m ∧ m ≤ E.length ∧ ∃ (σ : L2.St) (H0 H : Hp) (y o : Addr) (lo : Obj) (L : List Int), v = .ref y ∧ E[E.length - m]? = some L ∧ PP (E.length - m) σ H0 ∧ Same H0 H ∧ H0 y = none ∧ H0 o = none ∧ o ≠ y ∧ H y = some (.lst (L.map V.int)) ∧ H o = some (.lst (L.map V.int)) ∧
    Inv X ((k, lo) :: (ga, go) :: pins) σ H s1 ∧ ∀ (s' : Shared) (σ' : L2.St) (H' : Hp), Inv X ((k, lo) :: (ga, go) :: pins) σ' H' s' → PP (E.length - m + 1) σ' H' → H' o = some (.lst (L.map V.int)) → kap (.send .none) s'
/-- all are out -/
def eO (X : Cx) (pins : List (Addr × Obj)) (ga : Addr) (go : Obj) (E : List (List Int)) (PP : Nat → L2.St → Hp → Prop) (s1 : Shared) : Prop := ∃ σ H, Inv X ((ga, go) :: pins) σ H s1 ∧ PP E.length σ H
abbrev rO (X : Cx) (pins : List (Addr × Obj)) (ga : Addr) (go : Obj) (E : List (List Int)) (PP : Nat → L2.St → Hp → Prop) : GenEnd := fun n s₀ r s₁ =>
  ((r = .ok (.ret .none) ∨ r = .ok .next) ∧ (fun (_ : Nat) (_ s1 : Shared) => eO X pins ga go E PP s1) n s₀ s₁) ∨ ∃ e, r = .error e ∧ (fun (_ : Value) (_ : Shared) => False) e s₁
abbrev oFc (k : Nat) (f : Addr) (cd : Value) : Code := .func oBody (oEnv k f cd)
abbrev oWc (k : Nat) (f : Addr) (cd : Value) : Code := .whileLoop oTest [.Expr (.Yield (some (yiExpr oYield)) (yiPos oYield)) (exPos oYield), oNext] [] (oEnv k f cd)
/-- order: None, or the next one's list -/
def Ord (E : List (List Int)) (r : Nat) (H0 H : Hp) (ov : V) : Prop := (r = 0 ∧ ov = .non) ∨ ∃ (o : Addr) (L : List Int), ov = .ref o ∧ 1 ≤ r ∧ E[E.length - r]? = some L ∧ H o = some (.lst (L.map V.int)) ∧ H0 o = none
/-- what the generator's run leans on -/
structure OGen (X : Cx) (pins : List (Addr × Obj)) (k : Nat) (f : Addr) (cd : Value) (ga : Addr) (go : Obj) (C g : Addr) (n : Nat) (ar : Arr) (PP : Nat → L2.St → Hp → Prop) : Prop where
  env : GEnv X (oEnv k f cd) k
  low : ∀ p ∈ X.pn ++ pins, p.1 < k
  ga : k ≤ ga ∧ ga ≠ k ∧ ∀ v, go.data ≠ .cell v
  room : Room 3 (X.A.in1.deeper (oEnv k f cd))
  frames : (X.A.in1.deeper (oEnv k f cd)).frames = some (oEnv k f cd :: X.stack)
  mono : ∀ j σ H H1, PP j σ H → Same H H1 → PP j σ H1
  graph : ∀ j σ H, PP j σ H → GraphAt C H g n ar
  n8 : n ≤ 8
  l11 : ar.length ≤ 11
  zlist : X.mg "list" = none
  first : ∃ fF fdF, FnOk X.prog X.w X.K X.mg X.base CX0 3 fF fdF ["graph"] (spFirst X.K C) ∧ Binds X.K fdF ["graph"] [] ∧ X.mg "first_order" = some (.ref fF) ∧ PySem.W.keepIn X.K (.ref fF) = true
  next : ∃ fN fdN, FnOk X.prog X.w X.K X.mg X.base CX0 3 fN fdN ["graph", "order"] (spNext X.K C) ∧ Binds X.K fdN ["graph", "order"] [] ∧ X.mg "next_order" = some (.ref fN) ∧ PySem.W.keepIn X.K (.ref fN) = true
/-- asleep: what the consumer has -/
theorem o_sleep (O : OGen X pins k f cd ga go C g n ar PP) {s0 s : Shared} {σ τ : L2.St} {H0 H : Hp} (I : Inv X ((ga, go) :: pins) σ H0 s0) (hk : k ≤ s0.heap.objs.size) (J : Inv (genX X oN (oEnv k f cd) (X.A.in1.deeper (oEnv k f cd)) k s0 H0) [(ga, go)] τ H s) (sm : Same H0 H) :
    Inv X ((ga, go) :: pins) σ H s ∧ ∃ (lo : Obj) (m : Str → Option Value), Inv X ((k, lo) :: (ga, go) :: pins) σ H s ∧ (∀ h : Heap, h.get? k = some lo → h.Ns k m) ∧
      ∀ (i : Nat) (x : Str) (v : V), oN[i]? = some x → τ[i]? = some (some v) → Vis (oEnv k f cd).scope x → ∃ u, RelV v u ∧ (oEnv k f cd).kindOf x = some .local ∧ m x = some u := by
  have I0 : Inv X pins σ H0 s0 := I.pins_of fun p hp => I.pin p (List.mem_append_right _ (List.mem_cons_of_mem _ hp))
  have B : Inv X pins σ H s := inv_back I0 O.env hk J sm O.low
  obtain ⟨g1, g2, _, _, g5⟩ := J.pin (ga, go) (List.mem_append_right _ List.mem_cons_self)
  obtain ⟨m, hn, hl⟩ := J.loc
  obtain ⟨lo, es, ep, ho, hd, hs, hf⟩ := hn
  have qg : s.heap.get? ga = some go ∧ H ga = none ∧ k ≤ ga ∧ ∀ v, go.data ≠ .cell v := ⟨g1, g2, O.ga.1, O.ga.2.2⟩
  have ql : s.heap.get? k = some lo ∧ H k = none ∧ k ≤ k ∧ ∀ v, lo.data ≠ .cell v := ⟨ho, J.free, Nat.le_refl _, fun v q => by rw [hd] at q; cases q⟩
  refine ⟨inv_pin (qs := [(ga, go)]) B O.env fun p hp => ?_, lo, m, inv_pin (qs := [(k, lo), (ga, go)]) B O.env fun p hp => ?_, fun h e => ⟨lo, es, ep, e, hd, hs, hf⟩, fun i x v h1 h2 h3 => ?_⟩
  · rw [List.mem_singleton.mp hp]; exact qg
  · rcases List.mem_cons.mp hp with z | z
    · rw [z]; exact ql
    · rw [List.mem_singleton.mp z]; exact qg
  · obtain ⟨u, r, q⟩ := hl i x v h1 h2 h3
    refine ⟨u, r, ?_⟩
    rcases q with q | ⟨q, _⟩
    · exact q
    · rcases q with q | q
      · exact absurd q (O.env.nocell x).1
      · exact absurd q (O.env.nocell x).2
/-- awake again -/
theorem o_wake (O : OGen X pins k f cd ga go C g n ar PP) {s : Shared} {σ τ : L2.St} {H : Hp} {lo : Obj} {m : Str → Option Value} (I : Inv X ((k, lo) :: (ga, go) :: pins) σ H s) (hm : ∀ h : Heap, h.get? k = some lo → h.Ns k m) (hτ : ∀ (i : Nat) (x : Str) (v : V), oN[i]? = some x → τ[i]? = some (some v) → Vis (oEnv k f cd).scope x → ∃ u, RelV v u ∧ (oEnv k f cd).kindOf x = some .local ∧ m x = some u) (hl : τ.length = 2) :
    Inv X ((ga, go) :: pins) σ H s ∧ k ≤ s.heap.objs.size ∧ Inv (genX X oN (oEnv k f cd) (X.A.in1.deeper (oEnv k f cd)) k s H) [(ga, go)] τ H s := by
  obtain ⟨l1, l2, _⟩ := I.pin (k, lo) (List.mem_append_right _ List.mem_cons_self)
  obtain ⟨g1, g2, _, _, g5⟩ := I.pin (ga, go) (List.mem_append_right _ (List.mem_cons_of_mem _ List.mem_cons_self))
  have I1 : Inv X ((ga, go) :: pins) σ H s := I.pins_of fun p hp => I.pin p (List.mem_append_right _ (List.mem_cons_of_mem _ hp))
  have hk : k ≤ s.heap.objs.size := Nat.le_of_lt (Heap.lt_size l1)
  refine ⟨I1, hk, inv_wake I1 O.env O.room.hd O.frames hk (hm _ l1) hτ l2 hl fun p hp => ?_⟩
  rw [List.mem_singleton.mp hp]
  exact ⟨g1, g2, O.ga.2.1, O.ga.1, g5⟩
/-- the loop -/
theorem o_loop (O : OGen X pins k f cd ga go C g n ar PP) {kk : Result → Sem PySem.Fin} {l kp : List Value} {p : Pos}
    (hend : ∀ s₀ s, eO X pins ga go (ext n ar n []) PP s → Seg (model X.prog X.w) X.A.in1 (rO X pins ga go (ext n ar n []) PP) (yO X pins k ga go (ext n ar n []) PP) 1 s₀ (oFc k f cd) (kk (.ok .next)) [] s) :
    ∀ (r : Nat) (s₀ s s0 : Shared) (σ : L2.St) (H0 H : Hp) (ov : V), r ≤ (ext n ar n []).length → Inv X ((ga, go) :: pins) σ H0 s0 → PP ((ext n ar n []).length - r) σ H0 → k ≤ s0.heap.objs.size →
      Inv (genX X oN (oEnv k f cd) (X.A.in1.deeper (oEnv k f cd)) k s0 H0) [(ga, go)] [some (.ref g), some ov] H s → Same H0 H → Ord (ext n ar n []) r H0 H ov →
      Seg (model X.prog X.w) X.A.in1 (rO X pins ga go (ext n ar n []) PP) (yO X pins k ga go (ext n ar n []) PP) (r + 1) s₀ (oWc k f cd) ((model X.prog X.w).den (oWc k f cd)) [.ret kk none false l (oFc k f cd) p kp] s := by
  intro r
  have hov : X.A.in1.over (oWc k f cd) [.ret kk none false l (oFc k f cd) p kp] = X.A.in1.deeper (oEnv k f cd) := (over_loop rfl rfl).trans over_func
  induction r with
  | zero =>
    intro s₀ s s0 σ H0 H ov _ I P hk J sm hO
    obtain ⟨_, rfl⟩ : (0 : Nat) = 0 ∧ ov = .non := by
      rcases hO with z | ⟨_, _, _, z, _⟩
      · exact z
      · omega
    refine seg_whileLoop ?_
    rw [hov]
    refine wpAny_mono (o_test.run [(ga, go)] s _ H (fun b H' => b = false ∧ H' = H) J ⟨_, rfl, rfl, _, rfl, rfl, rfl⟩) (fun b s' hb => ?_) fun x s' hx => hx.elim
    obtain ⟨H', J', rfl, rfl⟩ := hb
    rw [if_neg Bool.false_ne_true]
    refine seg_execs_nil ?_
    exact seg_leaf (.ok .next) (hend s₀ s' ⟨σ, _, (o_sleep O I hk J' sm).1, O.mono _ _ _ _ P sm⟩)
  | succ r ih =>
    intro s₀ s s0 σ H0 H ov hr I P hk J sm hO
    obtain ⟨o, L, rfl, _, eL, hHo, h0o⟩ : ∃ (o : Addr) (L : List Int), ov = .ref o ∧ 1 ≤ r + 1 ∧ (ext n ar n [])[(ext n ar n []).length - (r + 1)]? = some L ∧ H o = some (.lst (L.map V.int)) ∧ H0 o = none := by
      rcases hO with ⟨z, _⟩ | z
      · omega
      · exact z
    refine seg_whileLoop ?_
    rw [hov]
    refine wpAny_mono (o_test.run [(ga, go)] s _ H (fun b H' => b = true ∧ H' = H) J ⟨_, rfl, rfl, _, rfl, rfl, rfl⟩) (fun b s' hb => ?_) fun x s' hx => hx.elim
    obtain ⟨H', J', rfl, rfl⟩ := hb
    rw [if_pos rfl]
    refine seg_execs_cons ?_
    refine seg_Expr_Yield (by show (splitAtGen []).map _ = none; rfl) rfl rfl ?_
    rw [hov]
    refine wpAny_mono ((o_yield O.zlist).run [(ga, go)] s' _ _ (fun x H2 => ∃ y, x = .ref y ∧ H' y = none ∧ H2 = L2.upd H' y (.lst (L.map V.int))) J' ⟨_, rfl, o, _, rfl, .inl (SqL.of hHo), fun y hy => ⟨y, rfl, hy, rfl⟩⟩) (fun v s2 hv => ?_) fun x s' hx => hx.elim
    obtain ⟨x, H2, J2, rv, y, rfl, hy, rfl⟩ := hv
    have sm2 : Same H0 (L2.upd H' y (.lst (L.map V.int))) := same_upd sm hy
    obtain ⟨_, lo, m, I2, hm, hτ⟩ := o_sleep O I hk J2 sm2
    intro kap hkap
    have hv : v = .ref y := rv
    refine ⟨by omega, hr, σ, H0, _, y, o, lo, L, hv, eL, P, sm2, sm.free hy, h0o, ne_of_none hHo hy, upd_same, upd_keep hy hHo, I2, fun s3 σ3 H3 I3 P3 hO3 => hkap .none s3 ?_⟩
    show Seg _ _ _ _ (r + 1) s3 _ _ _ s3
    obtain ⟨I4, hk3, J3⟩ := o_wake O I3 hm hτ rfl
    refine seg_execs_cons (seg_wrap ?_)
    rw [hov]
    obtain ⟨fN, fdN, GN, bN, mN, kN⟩ := O.next
    obtain ⟨gL, lL, _⟩ := ext_good .nil (List.mem_of_getElem? eL)
    have lL : L.length = n := by rw [lL]; exact Nat.zero_add n
    have en := next_ok eL
    have ei : (ext n ar n []).length - (r + 1) + 1 = (ext n ar n []).length - r := by omega
    rw [ei] at en P3
    refine wpAny_mono ((o_next O.room GN bN mN kN).run [(ga, go)] s3 _ H3 { nx := fun τ' H4 => ∃ ov', τ' = [some (.ref g), some ov'] ∧ Same H3 H4 ∧ Ord (ext n ar n []) r H3 H4 ov', rt := fun _ _ => False } J3
      ⟨_, rfl, _, rfl, g, o, n, ar, L, rfl, O.graph _ _ _ P3, hO3, O.n8, O.l11, lL, ?_⟩) (fun fl s4 hs => ?_) fun x s' hx => hx.elim
    · rw [en]
      cases e : (ext n ar n [])[(ext n ar n []).length - r]? with
      | none =>
        have : r = 0 := by
          have := List.getElem?_eq_none_iff.mp e
          omega
        exact fun H4 s4 => ⟨.non, rfl, s4, .inl ⟨this, rfl⟩⟩
      | some L' =>
        have : 1 ≤ r := by
          have := (List.getElem?_eq_some_iff.mp e).1
          omega
        exact fun H4 q s4 hq0 hq => ⟨.ref q, rfl, s4, .inr ⟨q, L', rfl, this, e, hq, hq0⟩⟩
    · cases fl with
      | next =>
        obtain ⟨τ4, H4, J4, ov', rfl, s34, hO4⟩ := hs
        refine seg_execs_nil ?_
        exact seg_again rfl (ih s3 s4 s3 σ3 H3 H4 ov' (by omega) I4 P3 hk3 J4 s34 hO4)
      | brk => obtain ⟨_, _, _, q⟩ := hs; exact q.elim
      | cont => obtain ⟨_, _, _, q⟩ := hs; exact q.elim
      | ret v => obtain ⟨_, _, _, _, _, q⟩ := hs; exact q.elim
/-- the generator from its start -/
theorem o_start (O : OGen X pins k f cd ga go C g n ar PP) {s : Shared} {σ : L2.St} {H : Hp} {lo : Obj} {m : Str → Option Value} (I : Inv X ((k, lo) :: (ga, go) :: pins) σ H s) (hm : ∀ h : Heap, h.get? k = some lo → h.Ns k m) (hg : m "graph" = some (.ref g)) (P : PP 0 σ H) :
    Seg (model X.prog X.w) X.A.in1 (rO X pins ga go (ext n ar n []) PP) (yO X pins k ga go (ext n ar n []) PP) ((ext n ar n []).length + 1) s (oFc k f cd) ((model X.prog X.w).den (oFc k f cd)) [] s := by
  have hτ : ∀ (i : Nat) (x : Str) (v : V), oN[i]? = some x → ([some (.ref g), none] : L2.St)[i]? = some (some v) → Vis (oEnv k f cd).scope x → ∃ u, RelV v u ∧ (oEnv k f cd).kindOf x = some .local ∧ m x = some u := by
    intro i x v h1 h2 _
    match i, h1, h2 with
    | 0, h1, h2 =>
      cases h1
      cases h2
      exact ⟨.ref g, rfl, rfl, hg⟩
    | 1, _, h2 => cases h2
    | i + 2, h1, _ => cases h1
  obtain ⟨I1, hk, J⟩ := o_wake O I hm hτ rfl
  refine seg_func ?_
  rw [congrArg (fun b => execs b (oEnv k f cd)) oBody_eq]
  refine seg_execs_cons (seg_wrap ?_)
  rw [over_func]
  obtain ⟨fF, fdF, GF, bF, mF, kF⟩ := O.first
  refine wpAny_mono ((o_first O.room GF bF mF kF).run [(ga, go)] s _ H { nx := fun τ' H4 => ∃ ov', τ' = [some (.ref g), some ov'] ∧ Same H H4 ∧ Ord (ext n ar n []) (ext n ar n []).length H H4 ov', rt := fun _ _ => False } J
      ⟨_, rfl, g, n, ar, rfl, O.graph _ _ _ P, O.n8, O.l11, ?_⟩) (fun fl s4 hs => ?_) fun x s' hx => hx.elim
  · rw [comp_first]
    cases e : (ext n ar n [])[0]? with
    | none =>
      have := List.getElem?_eq_none_iff.mp e
      exact fun H4 s4 => ⟨.non, rfl, s4, .inl ⟨by omega, rfl⟩⟩
    | some L' =>
      have := (List.getElem?_eq_some_iff.mp e).1
      exact fun H4 q s4 hq0 hq => ⟨.ref q, rfl, s4, .inr ⟨q, L', rfl, by omega, by rw [Nat.sub_self]; exact e, hq, hq0⟩⟩
  · cases fl with
    | next =>
      obtain ⟨τ4, H4, J4, ov', rfl, s34, hO4⟩ := hs
      refine seg_execs_cons (seg_While fun p => ?_)
      exact o_loop O (fun s₀ s5 he => seg_end (.ok (.ret .none)) (.inl ⟨.inl rfl, he⟩)) _ s s4 s σ H H4 ov' (Nat.le_refl _) I1 (by rw [Nat.sub_self]; exact P) hk J4 s34 hO4
    | brk => obtain ⟨_, _, _, q⟩ := hs; exact q.elim
    | cont => obtain ⟨_, _, _, q⟩ := hs; exact q.elim
    | ret v => obtain ⟨_, _, _, _, _, q⟩ := hs; exact q.elim
end
end K65

/-! Steps that leave the table of generators as it is. -/
namespace K65
open PySem L2 GenW PyProof.Rows
/-- .. and the table is G -/
def Wt {α : Type} (G : Array GenState) (R : α → Shared → Prop) : α → Shared → Prop := fun a s' => R a s' ∧ s'.gens = G
structure KE (X : Cx) (e : Expr) (t : TE) : Prop where
  run : ∀ (pins : List (Addr × Obj)) (s : Shared) (σ : L2.St) (H : Hp) (Q : VK), Inv X pins σ H s → t σ H Q → wpAny (model X.prog X.w) X.A (eval e X.env) (Wt s.gens (EP X pins σ Q)) X.xe s
def VsP (X : Cx) (pins : List (Addr × Obj)) (σ : L2.St) (Q : List V → Hp → Prop) : List Value → Shared → Prop := fun us s' => ∃ xs H', Inv X pins σ H' s' ∧ Vals xs us ∧ Q xs H'
structure KA (X : Cx) (es : List Expr) (t : TA) : Prop where
  run : ∀ (pos : Pos) (pins : List (Addr × Obj)) (s : Shared) (σ : L2.St) (H : Hp) (Q : List V → Hp → Prop), Inv X pins σ H s → t σ H Q → wpAny (model X.prog X.w) X.A (spliced (backTo pos (starEach es X.env))) (Wt s.gens (VsP X pins σ Q)) X.xe s
def BlP (X : Cx) (pins : List (Addr × Obj)) (σ : L2.St) (Q : Bool → Hp → Prop) : Bool → Shared → Prop := fun b s' => ∃ H', Inv X pins σ H' s' ∧ Q b H'
structure KT (X : Cx) (e : Expr) (t : TT) : Prop where
  run : ∀ (pins : List (Addr × Obj)) (s : Shared) (σ : L2.St) (H : Hp) (Q : Bool → Hp → Prop), Inv X pins σ H s → t σ H Q → wpAny (model X.prog X.w) X.A (isTrue e X.env (eval e X.env)) (Wt s.gens (BlP X pins σ Q)) X.xe s
structure KS (X : Cx) (st : Stmt) (t : TS) : Prop where
  run : ∀ (pins : List (Addr × Obj)) (s : Shared) (σ : L2.St) (H : Hp) (D : Ends), Inv X pins σ H s → t D σ H → wpAny (model X.prog X.w) X.A (exec st X.env) (Wt s.gens (SP X pins D)) X.xe s
structure KSs (X : Cx) (st : List Stmt) (t : TS) : Prop where
  run : ∀ (pins : List (Addr × Obj)) (s : Shared) (σ : L2.St) (H : Hp) (D : Ends), Inv X pins σ H s → t D σ H → wpAny (model X.prog X.w) X.A (execs st X.env) (Wt s.gens (SP X pins D)) X.xe s
/-- a called value, a called method -/
def KC (X : Cx) (f : Value) (r : List V → Hp → VK → Prop) : Prop := ∀ (pins : List (Addr × Obj)) (s : Shared) (σ : L2.St) (H : Hp) (xs : List V) (us : List Value) (Q : VK), Inv X pins σ H s → Vals xs us → r xs H Q → wpAny (model X.prog X.w) X.A (call f us) (Wt s.gens (EP X pins σ Q)) X.xe s
def KM (X : Cx) (id : String) (r : V → List V → Hp → VK → Prop) : Prop := ∀ (pins : List (Addr × Obj)) (s : Shared) (σ : L2.St) (H : Hp) (x : V) (xs : List V) (v : Value) (us : List Value) (Q : VK), Inv X pins σ H s → RelV x v → Vals xs us → r x xs H Q → wpAny (model X.prog X.w) X.A (call (.builtin id) (v :: us)) (Wt s.gens (EP X pins σ Q)) X.xe s
section
variable {X : Cx}
/-! ### names -/
theorem ke_loc {i : Nat} {x : Str} {pos : Pos} (hN : X.N[i]? = some x) (hx : X.env.kindOf x = some .local) (hd : (x == ("__debug__" : Str)) = false := by decide) : KE X (.Name x pos) (tVar i) := by
  constructor
  rintro pins s σ H Q I ⟨v, hv, q⟩
  obtain ⟨m, hn, hl⟩ := I.loc
  obtain ⟨u, r, hlk⟩ := hl i x v hN hv (.inl hx)
  rcases hlk with ⟨_, hm⟩ | ⟨z, _⟩
  · exact wpAny_Name (wpAny_loadName_local I.ok.kind hx hn hm ⟨⟨v, H, I, r, q⟩, rfl⟩) hd
  · rw [hx] at z
    rcases z with z | z <;> cases z
theorem ke_blt {x : Str} {v : V} {u : Value} {pos : Pos} (hg : Gl X x) (hm : X.mg x = none) (hv : bootBuiltins x = some u) (r : RelV v u) (hn : x ≠ "__name__" := by decide) (hd : (x == ("__debug__" : Str)) = false := by decide) : KE X (.Name x pos) (tC v) := by
  constructor
  intro pins s σ H Q I q
  exact ld_blt I hg hm hv ⟨⟨v, H, I, r, q⟩, rfl⟩ hn hd
/-! ### arguments, calls -/
theorem ka_nil : KA X [] tNil := by
  constructor
  intro pos pins s σ H Q I q
  exact Calls.spliced_nil ⟨⟨[], H, I, .nil, q⟩, rfl⟩
theorem ka_cons {e : Expr} {es : List Expr} {te : TE} {t : TA} (h1 : KE X e te) (h2 : KA X es t) (hs : starEach (e :: es) X.env = (false, eval e X.env) :: starEach es X.env := by rfl) : KA X (e :: es) (tCons te t) := by
  constructor
  intro pos pins s σ H Q I q
  rw [hs]
  show wpAny _ _ (spliced ((false, eval e X.env) :: backTo pos (starEach es X.env))) _ _ s
  refine Calls.spliced_cons (thn (h1.run pins s σ H _ I q) fun u s1 h => ?_)
  obtain ⟨⟨x, H1, I1, r1, q1⟩, e1⟩ := h
  refine thn (h2.run pos pins s1 σ H1 _ I1 q1) fun us s2 h => ?_
  obtain ⟨⟨xs, H2, I2, r2, q2⟩, e2⟩ := h
  exact ⟨⟨x :: xs, H2, I2, .cons r1 r2, q2⟩, e2.trans e1⟩
section
variable {x : Str} {p pos : Pos} {e : Expr} {es : List Expr} {t : TA} {r : List V → Hp → VK → Prop}
theorem ke_callB {id : String} (hc : KC X (.builtin id) r) (hg : Gl X x) (hm : X.mg x = none) (hv : bootBuiltins x = some (.builtin id)) (ha : KA X (e :: es) t) (hn : x ≠ "__name__" := by decide) (hd : (x == ("__debug__" : Str)) = false := by decide)
    (he : starEach (e :: es) X.env = (false, eval e X.env) :: starEach es X.env := by rfl) (hpl : (backTo pos (starEach es X.env)).any (·.1) = false := by rfl) : KE X (.Call (.Name x p) (e :: es) [] pos) (tCB r t) := by
  constructor
  intro pins s σ H Q I q
  refine wpAny_Call_Name_kw (ld_blt I hg hm hv (callWith_builtin1 ?_ he hpl) hn hd)
  refine thn (ha.run pos pins s σ H _ I q) fun us s1 h => ?_
  obtain ⟨⟨xs, H1, I1, r1, q1⟩, e1⟩ := h
  exact thn (hc pins s1 σ H1 xs us Q I1 r1 q1) fun v s2 h => ⟨h.1, h.2.trans e1⟩
theorem ke_callTy {T : String} (hc : KC X (.type T) r) (hg : Gl X x) (hm : X.mg x = none) (hv : bootBuiltins x = some (.type T)) (ha : KA X (e :: es) t) (hn : x ≠ "__name__" := by decide) (hd : (x == ("__debug__" : Str)) = false := by decide)
    (he : starEach (e :: es) X.env = (false, eval e X.env) :: starEach es X.env := by rfl) (hpl : (backTo pos (starEach es X.env)).any (·.1) = false := by rfl) : KE X (.Call (.Name x p) (e :: es) [] pos) (tCB r t) := by
  constructor
  intro pins s σ H Q I q
  refine wpAny_Call_Name_kw (ld_blt I hg hm hv (callWith_type1 ?_ he hpl) hn hd)
  refine thn (ha.run pos pins s σ H _ I q) fun us s1 h => ?_
  obtain ⟨⟨xs, H1, I1, r1, q1⟩, e1⟩ := h
  exact thn (hc pins s1 σ H1 xs us Q I1 r1 q1) fun v s2 h => ⟨h.1, h.2.trans e1⟩
end
section
variable {o e : Expr} {es : List Expr} {to : TE} {t : TA} {name : Str} {apos cpos : Pos} {T id : String} {r : V → List V → Hp → VK → Prop}
theorem ke_bm (pa : PlainAttrs T) (slot : Slot T name id) (hty : typeOf (.builtin id) = pure (.type "method_descriptor")) (hm : KM X id r) (ho : KE X o to) (ha : KA X (e :: es) t)
    (hbase : attributeBase o name X.env (eval o X.env) = eval o X.env := by rfl)
    (hfew : ((backTo cpos (starEach (e :: es) X.env)).all (fun x => !x.1) && (backToKw cpos (keywordEach [] X.env)).all (fun x => x.1.isSome) && decide ((e :: es).length + ([] : List Keyword).length + (if ([] : List Keyword).isEmpty then 0 else 1) < 30)) = true := by rfl)
    (hline : (apos.endLine == cpos.line) = true := by rfl) (hs : starEach (e :: es) X.env = (false, eval e X.env) :: starEach es X.env := by rfl) (hplain : (backTo cpos (starEach es X.env)).any (·.1) = false := by rfl) : KE X (.Call (.Attribute o name apos) (e :: es) [] cpos) (tBM X.K T r to t) := by
  constructor
  intro pins s σ H Q I q
  refine wpAny_Call_method_late hbase hfew hline rfl (thn (ho.run pins s σ H _ I q) fun v s1 h => ?_)
  obtain ⟨⟨x, H1, I1, r1, ty, q1⟩, e1⟩ := h
  obtain ⟨a1, a2⟩ := tyV_is I1 r1 ty
  refine ⟨T, id, pa, slot, hty, a1, a2, ?_⟩
  have w := ha.run cpos pins s1 σ H1 _ I1 q1
  rw [hs] at w ⊢
  refine Calls.callWith_builtin hplain (Calls.evalArgs_plain (thn w fun us s2 h => ?_))
  obtain ⟨⟨vs, H2, I2, r2, q2⟩, e2⟩ := h
  exact thn (hm pins s2 σ H2 x vs v us Q I2 r1 r2 q2) fun u s3 h => ⟨h.1, h.2.trans (e2.trans e1)⟩
theorem ke_bm0 (pa : PlainAttrs T) (slot : Slot T name id) (hty : typeOf (.builtin id) = pure (.type "method_descriptor")) (hm : KM X id r) (ho : KE X o to)
    (hbase : attributeBase o name X.env (eval o X.env) = eval o X.env := by rfl) (hline : (apos.endLine == cpos.line) = true := by rfl) : KE X (.Call (.Attribute o name apos) [] [] cpos) (tBM0 X.K T r to) := by
  constructor
  intro pins s σ H Q I q
  refine wpAny_Call_method0_late hbase hline (thn (ho.run pins s σ H _ I q) fun v s1 h => ?_)
  obtain ⟨⟨x, H1, I1, r1, ty, q1⟩, e1⟩ := h
  obtain ⟨a1, a2⟩ := tyV_is I1 r1 ty
  refine ⟨T, id, pa, slot, hty, a1, a2, Calls.callWith_builtin rfl (PySem.evalArgs_none ?_)⟩
  exact thn (hm pins s1 σ H1 x [] v [] Q I1 r1 .nil q1) fun u s3 h => ⟨h.1, h.2.trans e1⟩
end
/-! ### what is called -/
theorem kc_isi : KC X (.builtin "isinstance") (rIsi X.K) := by
  rintro pins s σ H xs us Q I r ⟨x, c, t, u, b, rfl, k, ty, e, q⟩
  obtain ⟨u1, u2, rfl, r1, r2⟩ := vals2 r
  obtain rfl := k.eq r2
  obtain ⟨P, Z, p, hx⟩ := kit_of I r1 ty
  exact PySem.W.kia_one Z I.kIn p e hx fun tk => ⟨⟨.bl b, H, I.tok tk, rfl, q⟩, rfl⟩
theorem kc_list : KC X (.type "list") (fun xs H Q => ∃ p ys, xs = [.ref p] ∧ H p = some (.lst ys) ∧ ∀ l, H l = none → Q (.ref l) (L2.upd H l (.lst ys))) := by
  rintro pins s σ H xs us Q I r ⟨p, ys, rfl, hp, q⟩
  obtain ⟨u, rfl, rx⟩ := vals1 r
  cases rx
  obtain ⟨hz, its, n, r', hlen, ho⟩ := I.lstM hp
  refine call_list_seq p (.inl rfl) ho rfl rfl (fun h' c' kp e => ⟨⟨.ref s.heap.objs.size, _, I.laid (t' := s.toks) kp (Nat.le_refl _) (show ObjOk X.prog X.w _ h' _ (.lst ys) from ⟨hz, its, c', r', e⟩), rfl, q _ I.fresh⟩, rfl⟩) ?_
  simp only [List.size_toArray]
  omega
theorem kc_len : KC X (.builtin "len") (fun xs H Q => ∃ p ys, xs = [.ref p] ∧ H p = some (.lst ys) ∧ Q (.int ys.length) H) := by
  rintro pins s σ H xs us Q I r ⟨p, ys, rfl, hp, q⟩
  obtain ⟨u, rfl, rx⟩ := vals1 r
  cases rx
  have big := line63
  obtain ⟨hz, its, n, r', hlen, ho⟩ := I.lstM hp
  refine Calls.call_len_list ⟨_, ho, rfl, n, rfl⟩ (by simp only [List.size_toArray] <;> omega) ⟨⟨.int ys.length, H, I.tok _, ⟨s.toks + 1, ?_⟩, q⟩, rfl⟩
  rw [List.size_toArray, hlen]
theorem km_append : KM X "list.append" rAppend := by
  rintro pins s σ H x vs v us Q I rx rv ⟨l, xs, y, rfl, rfl, hH, hz, q⟩
  cases rx
  obtain ⟨u, rfl, ru⟩ := rv.one
  obtain ⟨z, its, n, r, hl, e⟩ := I.lstM hH
  refine call_meets F.slot_list_append ⟨_, e, rfl⟩ F.entry_list_append (F.args_list_append_2 _ _) (PySem.list_append l its.toArray n u (by rw [List.size_toArray]; omega)) ⟨e, ⟨.non, _, I.lset (its' := its ++ [u]) hH e (by simp) (r.append (.cons ru .nil)) ?_, rfl, q⟩, rfl⟩
  rw [List.length_append, List.length_singleton]
  omega
theorem km_clear : KM X "list.clear" rClear := by
  rintro pins s σ H x vs v us Q I rx rv ⟨l, xs, rfl, rfl, hH, q⟩
  cases rx
  obtain rfl := rv.zero
  obtain ⟨z, its, n, r, hl, e⟩ := I.lstM hH
  exact call_meets F.slot_list_clear ⟨_, e, rfl⟩ F.entry_list_clear (F.args_list_clear_1 _) (AutoSeq1.list_clear_list_0 l its.toArray n (by rw [List.size_toArray]; omega)) ⟨e, ⟨.non, _, I.lset (its' := []) (ys := []) hH e rfl .nil (Nat.zero_le _), rfl, q⟩, rfl⟩
/-! ### tests -/
theorem kt_not {e : Expr} {t : TT} {pos : Pos} (h : KT X e t) : KT X (.UnaryOp .Not e pos) (tNot t) := by
  constructor
  intro pins s σ H Q I q
  exact isTrue_not (thn (h.run pins s σ H (fun c H1 => Q (!c) H1) I q) fun c s' h => h)
theorem kt_bool {e : Expr} {t : TE} (h : KE X e t) (he : ∀ whole, isTrue e X.env whole = (do let v ← whole; standAt e.pos; holding [v] (truthy v))) : KT X e (tTest t) := by
  constructor
  intro pins s σ H Q I q
  refine isTrue_plain (thn (h.run pins s σ H _ I q) fun v s1 h => ?_) (he _)
  obtain ⟨⟨x, H1, I1, r1, b, rfl, q1⟩, e1⟩ := h
  cases r1
  exact wpAny_truthy_bool ⟨⟨H1, I1, q1⟩, e1⟩
theorem kt_eqI {a b : Expr} {ta tb : TE} {pos : Pos} (ha : KE X a ta) (hb : KE X b tb) (hm : behindInMarks .Eq b = false) : KT X (.Compare a [.Eq] [b] pos) (fun σ H Q => ta σ H fun x H1 => tb σ H1 fun y H2 => ∃ i j, x = .int i ∧ y = .int j ∧ Q (i == j) H2) := by
  constructor
  intro pins s σ H Q I q
  refine wpAny_isTrue_Compare1 (thn (ha.run pins s σ H _ I q) fun v s1 h => ?_) hm
  obtain ⟨⟨x, H1, I1, r1, q1⟩, e1⟩ := h
  refine thn (hb.run pins s1 σ H1 _ I1 q1) fun u s2 h => ?_
  obtain ⟨⟨y, H2, I2, r2, i, j, rfl, rfl, q2⟩, e2⟩ := h
  obtain ⟨t1, rfl⟩ := r1
  obtain ⟨t2, rfl⟩ := r2
  exact eq_int (wpAny_truthy_bool ⟨⟨H2, I2, q2⟩, e2.trans e1⟩)
/-! ### statements -/
theorem kss_nil : KSs X [] tNext := by
  constructor
  intro pins s σ H D I q
  exact wpAny_execs_nil ⟨⟨σ, H, I, q⟩, rfl⟩
theorem kss_cons {st : Stmt} {rest : List Stmt} {t u : TS} (h1 : KS X st t) (h2 : KSs X rest u) : KSs X (st :: rest) (tSeq t u) := by
  constructor
  intro pins s σ H D I q
  refine wpAny_execs_cons (thn (h1.run pins s σ H { D with nx := u D } I q) fun f s1 h => ?_)
  obtain ⟨h, e1⟩ := h
  match f, h with
  | .next, ⟨σ', H', I', q'⟩ => exact thn (h2.run pins s1 σ' H' D I' q') fun _ s2 h => ⟨h.1, h.2.trans e1⟩
  | .ret v, h => exact ⟨h, e1⟩
  | .brk, h => exact ⟨h, e1⟩
  | .cont, h => exact ⟨h, e1⟩
theorem ks_expr {e : Expr} {te : TE} {pos : Pos} (h : KE X e te) (hs : swapsWith e none pos.line X.env = pure false := by rfl) : KS X (.Expr e pos) (tDrop te) := by
  constructor
  intro pins s σ H D I q
  refine wpAny_Expr_any (thn (h.run pins s σ H _ I q) fun v s1 h => ?_) I.quiet hs
  obtain ⟨⟨x, H1, I1, r1, q1⟩, e1⟩ := h
  exact ⟨⟨σ, H1, I1, q1⟩, e1⟩
theorem ks_ret {e : Expr} {te : TE} {pos : Pos} (h : KE X e te) : KS X (.Return (some e) pos) (tRet te) := by
  constructor
  intro pins s σ H D I q
  refine wpAny_Return_some (thn (h.run pins s σ H _ I q) fun v s1 h => ?_)
  obtain ⟨⟨x, H1, I1, r1, q1⟩, e1⟩ := h
  exact ⟨⟨x, σ, H1, I1, r1, q1⟩, e1⟩
theorem ks_if {c : Expr} {a b : List Stmt} {tc : TT} {t u : TS} {pos : Pos} (hc : KT X c tc) (ha : KSs X a t) (hb : KSs X b u) : KS X (.If c a b pos) (tIfS tc t u) := by
  constructor
  intro pins s σ H D I q
  refine wpAny_If (thn (hc.run pins s σ H _ I q) fun d s1 h => ?_)
  obtain ⟨⟨H1, I1, q1⟩, e1⟩ := h
  match d, q1 with
  | true, q1 => exact thn (ha.run pins s1 σ H1 D I1 q1) fun _ s2 h => ⟨h.1, h.2.trans e1⟩
  | false, q1 => exact thn (hb.run pins s1 σ H1 D I1 q1) fun _ s2 h => ⟨h.1, h.2.trans e1⟩
/-- a text that the proof never comes to -/
theorem kss_none {st : List Stmt} : KSs X st (fun _ _ _ => False) := ⟨fun _ _ _ _ _ _ h => h.elim⟩
end
end K65

namespace K65
open PySem L2 GenW
abbrev tBody : List Stmt := defBody sTold
def foIter : Stmt → Expr
  | .For _ i _ _ _ => i
  | _ => .Constant .none 0 ⟨0, 0, 0, 0⟩
def foTarget : Stmt → Expr
  | .For t _ _ _ _ => t
  | _ => .Constant .none 0 ⟨0, 0, 0, 0⟩
def foBody : Stmt → List Stmt
  | .For _ _ b _ _ => b
  | _ => []
def foPos : Stmt → Pos
  | .For _ _ _ _ p => p
  | _ => ⟨0, 0, 0, 0⟩
def caPos : Expr → Pos
  | .Call _ _ _ p => p
  | _ => ⟨0, 0, 0, 0⟩
def cfPos : Expr → Pos
  | .Call (.Name _ p) _ _ _ => p
  | _ => ⟨0, 0, 0, 0⟩
def caArgs : Expr → List Expr
  | .Call _ a _ _ => a
  | _ => []
abbrev tLoop : Stmt := tBody.getD 1 (.Pass ⟨0, 0, 0, 0⟩)
abbrev tArg : Expr := (caArgs (foIter tLoop)).getD 0 (.Constant .none 0 ⟨0, 0, 0, 0⟩)
theorem tLoop_eq : tLoop = .For (foTarget tLoop) (.Call (.Name "orders" (cfPos (foIter tLoop))) [tArg] [] (caPos (foIter tLoop))) (foBody tLoop) [] (foPos tLoop) := rfl
abbrev tN : List Str := ["_law_graph", "_law_most", "_law_told", "_law_order"]
abbrev tX (P : Program) (w : World) (K : PySem.W.Frag) (mg : Str → Option Value) (base : Heap) (f : Addr) (cdv : Value) (A : Around) (outer : List Env) (s : Shared) (H : Hp) (E : XK) : Cx := (cxOf CX0 P w K mg base tN "_law_told_orders" (defScope sTold) f cdv A outer s H E).nox
def tOne : TS := fun D σ H => ∃ (g T y : Addr) (m : Nat) (rs : List Addr) (L : List Int), σ = [some (.ref g), some (.int (m : Int)), some (.ref T), some (.ref y)] ∧ H T = some (.lst (rs.map V.ref)) ∧ H y = some (.lst (L.map V.int)) ∧ T ≠ y ∧ rs.length < 1000 ∧
  ∀ (H' : Hp) (c : Addr), H c = none → (∀ b o, b ≠ T → b ≠ y → H b = some o → H' b = some o) → H' T = some (.lst ((rs ++ [c]).map V.ref)) → H' c = some (.lst (L.map V.int)) → if rs.length + 1 = m then D.rt (.ref T) H' else D.nx σ H'
section
variable {P : Program} {w : World} {K : PySem.W.Frag} {mg : Str → Option Value} {base : Heap} {f : Addr} {cdv : Value} {A : Around} {outer : List Env} {s : Shared} {H : Hp} {E : XK}
theorem t_args : PA (tX P w K mg base f cdv A outer s H E) [tArg] (tCons (tVar 0) tNil) := pa_cons (pv 0) pa_nil
/-- one turn's body -/
theorem t_body (zisi : mg "isinstance" = none) (zlist : mg "list" = none) (zlen : mg "len" = none) : KSs (tX P w K mg base f cdv A outer s H E) (foBody tLoop) tOne := by
  have hb : KSs (tX P w K mg base f cdv A outer s H E) (foBody tLoop) _ := kss_cons (ks_if (kt_not (kt_bool (ke_callB kc_isi (by rfl) zisi b_isinstance (ka_cons (ke_loc (i := 3) rfl rfl) (ka_cons (ke_blt (v := .ty "list") (by rfl) zlist b_list rfl) ka_nil))) (fun _ => rfl))) kss_none kss_nil)
    (kss_cons (ks_expr (ke_bm PySem.F.plainAttrs_list PySem.F.slot_list_append PySem.F.type_list_append km_append (ke_loc (i := 2) rfl rfl) (ka_cons (ke_callTy kc_list (by rfl) zlist b_list (ka_cons (ke_loc (i := 3) rfl rfl) ka_nil)) ka_nil)))
    (kss_cons (ks_expr (ke_bm0 PySem.F.plainAttrs_list PySem.F.slot_list_clear PySem.F.type_list_clear km_clear (ke_loc (i := 3) rfl rfl)))
    (kss_cons (ks_if (kt_eqI (ke_callB kc_len (by rfl) zlen b_len (ka_cons (ke_loc (i := 2) rfl rfl) ka_nil)) (ke_loc (i := 1) rfl rfl) (nomark _)) (kss_cons (ks_ret (ke_loc (i := 2) rfl rfl)) kss_nil) kss_nil) kss_nil)))
  constructor
  rintro pins s1 σ H1 D I ⟨g, T, y, m, rs, L, rfl, hT, hy, nTy, hlen, k⟩
  refine hb.run pins s1 _ H1 D I ?_
  refine ⟨_, rfl, .ref y, .ty "list", .type "list", .type "list", true, rfl, .ty _, .base (.lst hy), kit_ty (by decide +kernel), true, rfl, ?_⟩
  refine ⟨_, rfl, .inl ⟨rfl, _, SqL.of hT⟩, _, rfl, y, _, rfl, hy, fun c hc => ⟨T, _, _, rfl, rfl, upd_keep hc hT, by rw [List.length_map]; exact small1000 (by omega), ?_⟩⟩
  have nyc : y ≠ c := ne_of_none hy hc
  have nTc : T ≠ c := ne_of_none hT hc
  have hy2 : L2.upd (L2.upd H1 c (.lst (L.map V.int))) T (.lst (rs.map V.ref ++ [.ref c])) y = some (.lst (L.map V.int)) := by
    rw [upd_ne (Ne.symm nTy), upd_ne nyc]; exact hy
  refine ⟨_, rfl, .inl ⟨rfl, _, SqL.of hy2⟩, y, _, rfl, rfl, hy2, ?_⟩
  have hT3 : L2.upd (L2.upd (L2.upd H1 c (.lst (L.map V.int))) T (.lst (rs.map V.ref ++ [.ref c]))) y (.lst []) T = some (.lst ((rs ++ [c]).map V.ref)) := by
    rw [upd_ne nTy, upd_same, List.map_append]; rfl
  have hk := k _ c hc (fun b o b1 b2 e => by rw [upd_ne b2, upd_ne b1]; exact upd_keep hc e) hT3 (by rw [upd_ne (Ne.symm nyc), upd_ne (Ne.symm nTc), upd_same])
  refine ⟨_, rfl, T, _, rfl, hT3, _, rfl, _, _, rfl, rfl, ?_⟩
  rw [List.length_map, List.length_append, List.length_singleton]
  by_cases q : rs.length + 1 = m
  · rw [if_pos q] at hk
    rw [if_pos (by simp; omega)]
    exact ⟨_, rfl, hk⟩
  · rw [if_neg q] at hk
    rw [if_neg (by simp; omega)]
    exact hk
end
end K65

namespace K65
open PySem L2 GenW
/-- the consumer between two turns -/
def toldP (C : Addr) (n : Nat) (ar : Arr) (g T : Addr) (m : Nat) (Hs : Hp) : Nat → L2.St → Hp → Prop := fun j σ H => ∃ (rs : List Addr) (x : Option V), σ = [some (.ref g), some (.int (m : Int)), some (.ref T), x] ∧ GraphAt C H g n ar ∧ (∀ b o, b ≠ T → Hs b = some o → H b = some o) ∧
  H T = some (.lst (rs.map V.ref)) ∧ Lsts (fun r => r = T) H rs ((ext n ar n []).take j) ∧ j < m
theorem GraphAt.but {C : Addr} {H H' : Hp} {g : Addr} {n : Nat} {ar : Arr} (h : GraphAt C H g n ar) (s : ∀ b o, (∀ xs, o ≠ .lst xs) → H b = some o → H' b = some o) : GraphAt C H' g n ar := by
  obtain ⟨dx, t, ps, h1, h2, h3⟩ := h
  exact ⟨dx, t, ps, s _ _ (fun _ z => nomatch z) h1, s _ _ (fun _ z => nomatch z) h2, h3.same fun _ _ e => s _ _ (fun _ z => nomatch z) e⟩
def tTold (C : Addr) : TS := fun D σ H => ∃ (g T : Addr) (n m : Nat) (ar : Arr) (x : Option V), σ = [some (.ref g), some (.int (m : Int)), some (.ref T), x] ∧ GraphAt C H g n ar ∧ n ≤ 8 ∧ ar.length ≤ 11 ∧ 1 ≤ m ∧ m ≤ 121 ∧ H T = some (.lst []) ∧
  ∀ (H' : Hp) (rs : List Addr) (x' : Option V), (∀ b o, b ≠ T → H b = some o → H' b = some o) → H' T = some (.lst (rs.map V.ref)) → Lsts (fun r => r = T) H' rs ((ext n ar n []).take m) → D.rt (.ref T) H' ∧ D.nx [some (.ref g), some (.int (m : Int)), some (.ref T), x'] H'
theorem o_nocell (k : Nat) (f : Addr) (cd : Value) (x : Str) : (oEnv k f cd).kindOf x ≠ some .cell ∧ (oEnv k f cd).kindOf x ≠ some .free := by
  have h : ∀ y ∈ (defScope sOrders).names, y.2 ≠ .cell ∧ y.2 ≠ .free := by decide +kernel
  constructor
  · intro z
    exact (h _ (PySem.mem_of_lookup z)).1 rfl
  · intro z
    exact (h _ (PySem.mem_of_lookup z)).2 rfl
section
variable {P : Program} {w : World} {K : PySem.W.Frag} {mg : Str → Option Value} {base : Heap} {f fO C : Addr} {fdO : FuncData} {cdv : Value} {A : Around} {outer : List Env} {s : Shared} {H : Hp} {E : XK}
theorem t_loop {k ga gi : Nat} {go lo : Obj} {nm qn cdo : Value} {mo : Str → Option Value} {D : Ends} {pins : List (Addr × Obj)} {s3 : Shared} {H0 : Hp} {g T : Addr} {n m : Nat} {ar : Arr} {x0 : Option V} (hr : Room 5 (tX P w K mg base f cdv A outer s H E).A)
    (first : ∃ fF fdF, FnOk P w K mg base CX0 3 fF fdF ["graph"] (spFirst K C) ∧ Binds K fdF ["graph"] [] ∧ mg "first_order" = some (.ref fF) ∧ PySem.W.keepIn K (.ref fF) = true)
    (next : ∃ fN fdN, FnOk P w K mg base CX0 3 fN fdN ["graph", "order"] (spNext K C) ∧ Binds K fdN ["graph", "order"] [] ∧ mg "next_order" = some (.ref fN) ∧ PySem.W.keepIn K (.ref fN) = true)
    (zisi : mg "isinstance" = none) (zlist : mg "list" = none) (zlen : mg "len" = none)
    (I : Inv (tX P w K mg base f cdv A outer s H E) pins [some (.ref g), some (.int (m : Int)), some (.ref T), x0] H0 s3) (hG : GraphAt C H0 g n ar) (hn : n ≤ 8) (hl : ar.length ≤ 11) (hm1 : 1 ≤ m) (hm2 : m ≤ 121) (hT : H0 T = some (.lst []))
    (kend : ∀ (H' : Hp) (rs : List Addr) (x' : Option V), (∀ b o, b ≠ T → H0 b = some o → H' b = some o) → H' T = some (.lst (rs.map V.ref)) → Lsts (fun r => r = T) H' rs ((ext n ar n []).take m) → D.rt (.ref T) H' ∧ D.nx [some (.ref g), some (.int (m : Int)), some (.ref T), x'] H')
    (hke : GEnv (tX P w K mg base f cdv A outer s H E) (oEnv k fO cdo) k) (low : ∀ p ∈ pins, p.1 < k) (hk0 : H0 k = none) (hg0 : H0 ga = none) (hkg : k < ga) (ego : s3.heap.get? ga = some go) (g1 : go.cls = .type "generator") (g2 : go.data = .fields #[.int gi 0, nm, qn]) (g3 : go.slots = #[])
    (hgi : s3.gens[gi]? = some (.fresh (oFc k fO cdo))) (elo : s3.heap.get? k = some lo) (hlo : ∀ v, lo.data ≠ .cell v) (hmo : ∀ h : Heap, h.get? k = some lo → h.Ns k mo) (hgr : mo "graph" = some (.ref g)) :
    codeAny (model P w) (tX P w K mg base f cdv A outer s H E).A (.forLoop (foTarget tLoop) (.ref ga) (foBody tLoop) [] (tX P w K mg base f cdv A outer s H E).env)
      (fun r s' => match r with
        | .ok fl => SP (tX P w K mg base f cdv A outer s H E) pins D fl s'
        | .error e => cameBackBy (model P w) (tX P w K mg base f cdv A outer s H E).A (tX P w K mg base f cdv A outer s H E).env (tX P w K mg base f cdv A outer s H E).xe e s') s3 := by
  let X := tX P w K mg base f cdv A outer s H E
  let PP := toldP C n ar g T m H0
  let Es := ext n ar n []
  have O : OGen X pins k fO cdo ga go C g n ar PP := {
    env := hke
    low := fun p hp => low p ((List.mem_append.mp hp).elim (fun z => nomatch z) id)
    ga := ⟨Nat.le_of_lt hkg, Nat.ne_of_gt hkg, fun v q => by rw [g2] at q; cases q⟩
    room := (Room.in1 hr).deeper _
    frames := Around.frames_deeper I.ok.frames
    mono := fun j σ H1 H2 h sm => by
      obtain ⟨rs, x, e, h1, h2, h3, h4, h5⟩ := h
      exact ⟨rs, x, e, h1.same sm, fun b o nb q => sm _ _ (h2 b o nb q), sm _ _ h3, h4.to fun r o nr q => ⟨nr, sm _ _ q⟩, h5⟩
    graph := fun j σ H1 h => h.choose_spec.choose_spec.2.1
    n8 := hn
    l11 := hl
    zlist := zlist
    first := first
    next := next }
  have qk : s3.heap.get? k = some lo ∧ H0 k = none ∧ k ≤ k ∧ ∀ v, lo.data ≠ .cell v := ⟨elo, hk0, Nat.le_refl _, hlo⟩
  have qg : s3.heap.get? ga = some go ∧ H0 ga = none ∧ k ≤ ga ∧ ∀ v, go.data ≠ .cell v := ⟨ego, hg0, O.ga.1, O.ga.2.2⟩
  have I2 : Inv X ((k, lo) :: (ga, go) :: pins) [some (.ref g), some (.int (m : Int)), some (.ref T), x0] H0 s3 := inv_pin (qs := [(k, lo), (ga, go)]) I hke fun p hp => by
    rcases List.mem_cons.mp hp with z | z
    · rw [z]; exact qk
    · rw [List.mem_singleton.mp z]; exact qg
  have P0 : PP 0 [some (.ref g), some (.int (m : Int)), some (.ref T), x0] H0 := ⟨[], x0, rfl, hG, fun _ _ _ e => e, hT, .nil, hm1⟩
  have isg : ∀ h : Heap, h.get? ga = some go → h.IsGen ga gi := fun h e => ⟨go, nm, qn, e, g1, g2, g3⟩
  have drop1 : ∀ {σ : L2.St} {H1 : Hp} {s1 : Shared} {lo1 : Obj}, Inv X ((k, lo1) :: (ga, go) :: pins) σ H1 s1 → Inv X ((ga, go) :: pins) σ H1 s1 := fun J => J.pins_of fun p hp => J.pin p (List.mem_append_right _ (List.mem_cons_of_mem _ hp))
  have drop2 : ∀ {σ : L2.St} {H1 : Hp} {s1 : Shared}, Inv X ((ga, go) :: pins) σ H1 s1 → Inv X pins σ H1 s1 := fun J => J.pins_of fun p hp => J.pin p (List.mem_append_right _ (List.mem_cons_of_mem _ hp))
  have run1 : ∀ {ps : List (Addr × Obj)} {σ : L2.St} {H1 : Hp} {s1 : Shared} {y : GenState}, Inv X ps σ H1 s1 → y.bare = true → Inv X ps σ H1 (s1.setGen gi y) := fun J hy => inv_gens J (allBare_setGen J.bare hy)
  refine codeAny_forLoop_any (fun meas s' => ∃ (j : Nat) (σ : L2.St) (H1 : Hp) (gs : GenState), meas = Es.length - j ∧ j ≤ Es.length ∧ Inv X ((ga, go) :: pins) σ H1 s' ∧ PP j σ H1 ∧ s'.gens[gi]? = some gs ∧
    gs.Goes (model X.prog X.w) X.A.in1 (rO X pins ga go Es PP) (yO X pins k ga go Es PP) (Es.length - j + 1) (.send .none) (s'.setGen gi .running)) ?_ Es.length
    ⟨0, _, H0, _, rfl, Nat.zero_le _, drop1 I2, P0, hgi, rfl, o_start O (run1 I2 rfl) hmo hgr P0⟩
  rintro meas s4 ⟨j, σ4, H4, gs, hmeas, hj, I4, P4, hgs, hgo⟩
  have hgl : gi < s4.gens.size := (Array.getElem?_eq_some_iff.mp hgs).1
  have eg4 : s4.heap.get? ga = some go := (I4.pin (ga, go) (List.mem_append_right _ List.mem_cons_self)).1
  refine wpAny_passesOwn PassesOwn.never (wpAny_gsz (n := gi + 1) hgl (next_genG (A := X.A) (F := fun _ _ s1 => eO X pins ga go Es PP s1) (Er := fun _ _ => False) hr.hd I4.nolimit hr.depth (isg _ eg4) hgs hgo (fun v s5 gs' hb hv => ?_) (fun s5 he h' hk => ?_) fun e s5 he => he.elim))
  · intro hsz
    obtain ⟨hv1, hv2, σ5, H00, H5, y, o, lo5, L, rfl, eL, P5, sm5, hy0, ho0, noy, hy5, ho5, I5, hres⟩ := hv
    rw [Nat.add_sub_cancel] at hv1 hv2 eL P5 hres
    have ej : Es.length - (Es.length - j) = j := by omega
    rw [ej] at eL P5 hres
    have I5' := run1 (y := gs') I5 hb
    have eg5 : s5.heap.get? ga = some go := (I5.pin (ga, go) (List.mem_append_right _ (List.mem_cons_of_mem _ List.mem_cons_self))).1
    refine wpAny_passesOwn PassesOwn.never (go_of (n := "generator") (s := s5.setGen gi gs') eg5 g1 g2 rfl ?_)
    obtain ⟨m5, hn5, _⟩ := I5'.loc
    refine wpAny_passesOwn PassesOwn.never (wpAny_assign_Name (wpAny_storeName_local (m := m5) rfl hn5 (fun h' hn' hs => ?_) rfl))
    have I6 := inv_store (i := 3) (v := .ref y) (u := .ref y) (t' := (s5.setGen gi gs').toks + 1) I5' scTold.nd rfl rfl rfl hn5 hn' hs
    obtain ⟨rs, x, rfl, hG0, hk0', hT0, l0, hjm⟩ := P5
    have hT5 := sm5 _ _ hT0
    have nTy : T ≠ y := ne_of_none hT0 hy0
    have noT : o ≠ T := fun z => by rw [z, hT0] at ho0; cases ho0
    have hjl : j < Es.length := (List.getElem?_eq_some_iff.mp eL).1
    have rlen : rs.length = j := by
      have h1 : rs.length = (Es.take j).length := l0.length
      rw [List.length_take] at h1
      omega
    refine wpAny_passesOwn PassesOwn.never (thn ((t_body zisi zlist zlen).run ((k, lo5) :: (ga, go) :: pins) _ _ H5 { nx := fun σ7 H7 => PP (j + 1) σ7 H7 ∧ H7 o = some (.lst (L.map V.int)), rt := D.rt } I6 ⟨g, T, y, m, rs, L, rfl, hT5, hy5, nTy, by omega, fun H' c hc hk hT' hc' => ?_⟩) fun fl s7 h7 => ?_)
    · have old : ∀ b ob, b ≠ T → H00 b = some ob → H' b = some ob := fun b ob nb e => hk b ob nb (ne_of_none e hy0) (sm5 _ _ e)
      have lst' : Lsts (fun r => r = T) H' (rs ++ [c]) (Es.take (j + 1)) := by
        rw [List.take_add_one, eL]
        exact Lsts.app (l0.to fun r ob nr e => ⟨nr, old r ob nr e⟩) (.cons ⟨fun z => ne_of_none hT5 hc z.symm, hc'⟩ .nil)
      have keep' : ∀ b ob, b ≠ T → H0 b = some ob → H' b = some ob := fun b ob nb e => old b ob nb (hk0' b ob nb e)
      by_cases q : rs.length + 1 = m
      · rw [if_pos q]
        refine (kend H' (rs ++ [c]) none keep' hT' ?_).1
        rw [← q, rlen]
        exact lst'
      · rw [if_neg q]
        refine ⟨⟨rs ++ [c], some (.ref y), rfl, hG0.but fun b ob nl e => ?_, keep', hT', lst', by omega⟩, hk o _ noT noy ho5⟩
        exact old b ob (fun z => by rw [z, hT0] at e; cases e; exact nl _ rfl) e
    · obtain ⟨h7, e7⟩ := h7
      match fl, h7 with
      | .next, ⟨σ7, H7, I7, P7, ho7⟩ =>
        have hsz5 : gi < s5.gens.size := by
          have h1 : (s5.setGen gi gs').gens.size = s5.gens.size := setGen_size _ _ _
          omega
        refine ⟨Es.length - (j + 1), by omega, j + 1, σ7, H7, gs', rfl, hjl, drop1 I7, P7, by rw [e7]; exact setGen_at hsz5, ?_⟩
        have h8 := hres (s7.setGen gi .running) σ7 H7 (run1 I7 rfl) P7 ho7
        rw [show Es.length - (j + 1) + 1 = Es.length - j by omega]
        exact h8
      | .brk, ⟨_, _, _, q⟩ => exact q.elim
      | .cont, ⟨_, _, _, q⟩ => exact q.elim
      | .ret v, ⟨x7, σ7, H7, I7, r7, q7⟩ => exact ⟨x7, σ7, H7, drop2 (drop1 I7), r7, q7⟩
  · intro hsz
    obtain ⟨σ5, H5, I5, P5⟩ := he
    obtain ⟨rs, x, rfl, hG0, hk0', hT0, l0, hjm⟩ := P5
    have I6 := run1 (y := .finished) I5 rfl
    refine wpAny_execs_nil ⟨_, H5, drop2 (I6.call' (ch := []) rfl (Un.kept hk) (I6.hok.kept hk) I6.bare fun b z => by cases z), (kend H5 rs x hk0' hT0 ?_).2⟩
    rw [List.take_length] at l0
    rw [List.take_of_length_le (Nat.le_of_lt hjm)]
    exact l0
theorem t_for (hr : Room 5 (tX P w K mg base f cdv A outer s H E).A) (FO : Fun K "orders" "orders" sOrders fO fdO) (bO : Binds K fdO ["graph"] []) (mO : mg "orders" = some (.ref fO)) (kO : PySem.W.keepIn K (.ref fO) = true)
    (first : ∃ fF fdF, FnOk P w K mg base CX0 3 fF fdF ["graph"] (spFirst K C) ∧ Binds K fdF ["graph"] [] ∧ mg "first_order" = some (.ref fF) ∧ PySem.W.keepIn K (.ref fF) = true)
    (next : ∃ fN fdN, FnOk P w K mg base CX0 3 fN fdN ["graph", "order"] (spNext K C) ∧ Binds K fdN ["graph", "order"] [] ∧ mg "next_order" = some (.ref fN) ∧ PySem.W.keepIn K (.ref fN) = true)
    (zisi : mg "isinstance" = none) (zlist : mg "list" = none) (zlen : mg "len" = none) : PS (tX P w K mg base f cdv A outer s H E) tLoop (tTold C) := by
  rw [tLoop_eq]
  constructor
  rintro pins s0 σ H0 D I ⟨g, T, n, m, ar, x0, rfl, hG, hn, hl, hm1, hm2, hT, kend⟩
  refine wpAny_For ?_ (fun _ => rfl)
  refine wpAny_Call_Name_kw (ld_glob I rfl mO ?_ (by decide))
  refine PySem.W.callWith_K (h₀ := base) I.ok.mod.kin kO (thn (t_args.run _ pins s0 _ H0 (fun vs H1 => vs = [.ref g] ∧ H1 = H0) I ⟨_, rfl, rfl, rfl⟩) fun us s1 ⟨vs, H1, I1, rv, ev, eH⟩ => ⟨I1.kIn, ?_⟩) rfl rfl
  subst ev eH
  obtain ⟨u, rfl, ru⟩ := rv.one
  obtain rfl : u = .ref g := ru
  obtain ⟨⟨oc, od, kV, doc, pm, an, cdo, ct, osl, rfl, lk, hcd⟩, _⟩ := FO
  refine wpAny_call (codeAny_call_generator hr.depth (I1.kIn _ _ lk) rfl rfl rfl rfl (PySem.W.codeRec_of I1.kIn hcd) (bO s1 [.ref g] I1.kIn rfl _ _ _ _ ?_))
  refine wpAny_newFunctionEnv_cells rfl (fun y hy => ?_) fun env he s2 xc => ?_
  · rw [List.mem_singleton.mp hy]
    exact .inl rfl
  subst he
  have lim2 : s2.heap.NoLimit := I1.nolimit.keeps xc.toInCall.keep
  obtain ⟨h2, tk2, es2, hk2⟩ := xc.done
  obtain ⟨lo, es, ep, ho, hd, hs, hf⟩ := xc.toInCall.ns
  have kp : ∀ (go : Obj) (b : Addr) (ob : Obj), s1.heap.get? b = some ob → (s2.heap.push go).get? b = some ob := fun go b ob e => Heap.get?_push_of_some _ (xc.toInCall.keep b ob e)
  have os2 : s2.os = s1.os := by rw [es2]
  have ge2 : s2.gens = s1.gens := by rw [es2]
  have I3 : ∀ (go : Obj) (t : Nat) (cc : Code), Inv (tX P w K mg base f cdv A outer s H E) pins [some (.ref g), some (.int (m : Int)), some (.ref T), x0] _ { s2 with gens := s2.gens.push (.fresh cc), toks := t, heap := s2.heap.push go } := fun go t cc =>
    I1.call' (ch := []) os2 (Un.kept (kp go)) (I1.hok.kept (kp go)) (PyProof.Rows.AllBare.push (by rw [ge2]; exact I1.bare) rfl) fun b z => by cases z
  refine ⟨lim2, ?_⟩
  refine wpAny_pyIter_gen (g := s2.gens.size) ⟨_, _, _, Heap.get?_push_size _ rfl, rfl, rfl, rfl⟩ ?_
  have lt2 : s1.heap.objs.size < s2.heap.objs.size := Heap.lt_size ho
  exact t_loop (k := s1.heap.objs.size) (ga := s2.heap.objs.size) (gi := s2.gens.size) (fO := fO) (cdo := cdo) (lo := lo) hr first next zisi zlist zlen (I3 _ _ _) hG hn hl hm1 hm2 hT kend
    { kind := rfl, glob := rfl, blt := rfl, frame := rfl, at_ := rfl, cells := rfl, nocell := o_nocell _ _ _, own := I1.lt, s0 := I1.sz, cl := fun x c e => (I1.cell x c e).choose_spec.lt }
    (fun p hp => Heap.lt_size (I1.pin p (List.mem_append_right _ hp)).1) (I1.hok.fresh (Nat.le_refl _)) (I1.hok.fresh (Nat.le_of_lt lt2)) lt2 (Heap.get?_push_size _ rfl) rfl rfl rfl (Array.getElem?_push_size ..) (Heap.get?_push_of_some _ ho) (fun v q => by rw [hd] at q; cases q)
    (fun h e => ⟨lo, es, ep, e, hd, hs, hf⟩) (bindL_get (P := ["graph"]) (vs := [.ref g]) (i := 0) (by decide +kernel) rfl rfl rfl)
end
end K65

namespace K65
open PySem L2
def spTold (C : Addr) : Sp := fun vs H Q _ => ∃ (g : Addr) (n m : Nat) (ar : Arr), vs = [.ref g, .int (m : Int)] ∧ GraphAt C H g n ar ∧ n ≤ 8 ∧ ar.length ≤ 11 ∧ 1 ≤ m ∧ m ≤ 121 ∧
  ∀ (H' : Hp) (q : Addr) (rs : List Addr), Same H H' → H q = none → H' q = some (.lst (rs.map V.ref)) → Lsts (fun _ => False) H' rs ((ext n ar n []).take m) → Q (.ref q) H'
section
variable {P : Program} {w : World} {K : PySem.W.Frag} {mg : Str → Option Value} {base : Heap}
theorem ok_told {f fO C : Addr} {fd fdO : FuncData} (F : Fun K "_law_told_orders" "_law_told_orders" sTold f fd) (FO : Fun K "orders" "orders" sOrders fO fdO) (bO : Binds K fdO ["graph"] []) (mO : mg "orders" = some (.ref fO)) (kO : PySem.W.keepIn K (.ref fO) = true)
    (first : ∃ fF fdF, FnOk P w K mg base CX0 3 fF fdF ["graph"] (spFirst K C) ∧ Binds K fdF ["graph"] [] ∧ mg "first_order" = some (.ref fF) ∧ PySem.W.keepIn K (.ref fF) = true)
    (next : ∃ fN fdN, FnOk P w K mg base CX0 3 fN fdN ["graph", "order"] (spNext K C) ∧ Binds K fdN ["graph", "order"] [] ∧ mg "next_order" = some (.ref fN) ∧ PySem.W.keepIn K (.ref fN) = true)
    (zisi : mg "isinstance" = none) (zlist : mg "list" = none) (zlen : mg "len" = none) : FnOk P w K mg base CX0 6 f fd ["_law_graph", "_law_most"] (spTold C) := by
  refine F.ok scTold (fun vs H Q E h => ?_) (fun cdv A outer s H vs Q E hr h => ?_)
  · obtain ⟨g, n, m, ar, rfl, _⟩ := h
    rfl
  · obtain ⟨g, n, m, ar, rfl, hG, hn, hl, h1, h2, k⟩ := h
    refine ⟨_, pss_cons (ps_set (i := 2) scTold.nd rfl (.inl rfl) (pe_lst pa_nil)) (pss_cons (t_for (C := C) hr FO bO mO kO first next zisi zlist zlen) (pss_one (ps_ret (pv 2)))), ?_⟩
    refine ⟨Nat.zero_le _, fun T hT => ⟨g, T, n, m, ar, none, rfl, hG.same (same_new hT), hn, hl, h1, h2, upd_same, fun H' rs x' keep hT' l => ?_⟩⟩
    have sm : Same H H' := fun b o e => keep b o (ne_of_none e hT) (upd_keep hT e)
    have l' : Lsts (fun _ => False) H' rs ((ext n ar n []).take m) := l.to fun r o _ e => ⟨fun z => z, e⟩
    exact ⟨k H' T rs sm hT hT' l', _, rfl, k H' T rs sm hT hT' l'⟩
end
end K65

namespace K65
open PySem L2
section
variable {n : Nat} {ar br : Arr}
theorem free_same (h : ∀ a, a ∈ ar ↔ a ∈ br) (p : List Int) : free n ar p = free n br p := by
  have e : ∀ v, decide (v ∈ held ar p) = decide (v ∈ held br p) := fun v => decide_eq_decide.mpr (by
    rw [mem_held, mem_held]
    exact ⟨fun ⟨x, h1, h2⟩ => ⟨x, (h _).mp h1, h2⟩, fun ⟨x, h1, h2⟩ => ⟨x, (h _).mpr h1, h2⟩⟩)
  unfold free
  congr 1
  funext v
  rw [e]
theorem ext_same (h : ∀ a, a ∈ ar ↔ a ∈ br) : ∀ (k : Nat) (p : List Int), ext n ar k p = ext n br k p
  | 0, p => rfl
  | k + 1, p => by
    unfold ext
    rw [free_same h]
    congr 1
    funext v
    exact ext_same h k _
theorem comp_same (h : ∀ a, a ∈ ar ↔ a ∈ br) : comp n ar n [] = comp n br n [] := by
  rw [comp_first, comp_first, ext_same h]
theorem cnt_same (h : ∀ a, a ∈ ar ↔ a ∈ br) : cnt n ar n [] = cnt n br n [] := by
  rw [cnt_len, cnt_len, ext_same h]
end
/-- the pair that a list of two numbers tells -/
def prOf (l : List Int) : Int × Int := (l.getD 0 0, l.getD 1 0)
def lsOf (a : Int × Int) : List Int := [a.1, a.2]
theorem prOf_ls (a : Int × Int) : prOf (lsOf a) = a := rfl
theorem zip_tup {K : PySem.W.Frag} {H : Hp} : ∀ {ps : List Addr} {ar : Arr}, Arrs H ps ar → ((ps.zip (ar.map lsOf)).map fun p => V.ref p.1) = ps.map V.ref ∧ (∀ p ∈ ps.zip (ar.map lsOf), ∃ a ∈ ar, p.2 = lsOf a ∧ H p.1 = some (.tup [.int a.1, .int a.2])) ∧ (ps.zip (ar.map lsOf)).length = ar.length ∧ (ps.zip (ar.map lsOf)).map (·.2) = ar.map lsOf
  | _, _, .nil => ⟨rfl, (fun p hp => nomatch hp), rfl, rfl⟩
  | _, _, .cons (a := a) (b := b) r t => by
    obtain ⟨h1, h2, h3, h4⟩ := zip_tup (K := K) t
    refine ⟨congrArg (V.ref a :: ·) h1, fun p hp => ?_, congrArg (· + 1) h3, congrArg (lsOf b :: ·) h4⟩
    rcases List.mem_cons.mp hp with z | z
    · rw [z]; exact ⟨b, List.mem_cons_self, rfl, r⟩
    · obtain ⟨a', m', e⟩ := h2 p z
      exact ⟨a', List.mem_cons_of_mem _ m', e⟩
/-- what sorted(set(arrows)) is -/
theorem known_of {H : Hp} {ar : Arr} {L' : List (Addr × List Int)} (h1 : ∀ p ∈ L', ∃ a ∈ ar, p.2 = lsOf a ∧ H p.1 = some (.tup [.int a.1, .int a.2])) (h2 : ∀ a ∈ ar, ∃ p ∈ L', p.2 = lsOf a) (h3 : (L'.map (·.2)).Nodup) :
    Arrs H (L'.map (·.1)) (L'.map fun p => prOf p.2) ∧ (∀ a, a ∈ (L'.map fun p => prOf p.2) ↔ a ∈ ar) ∧ (L'.map fun p => prOf p.2).Nodup := by
  refine ⟨?_, fun a => ⟨fun ha => ?_, fun ha => ?_⟩, ?_⟩
  · have : ∀ (M : List (Addr × List Int)), (∀ p ∈ M, ∃ a ∈ ar, p.2 = lsOf a ∧ H p.1 = some (.tup [.int a.1, .int a.2])) → Arrs H (M.map (·.1)) (M.map fun p => prOf p.2) := by
      intro M
      induction M with
      | nil => intro _; exact .nil
      | cons p M ih =>
        intro h
        refine .cons ?_ (ih fun q hq => h q (List.mem_cons_of_mem _ hq))
        obtain ⟨a, _, e, q⟩ := h p List.mem_cons_self
        show H p.1 = some (.tup [.int (prOf p.2).1, .int (prOf p.2).2])
        rw [e]
        exact q
    exact this L' h1
  · obtain ⟨p, hp, rfl⟩ := List.mem_map.mp ha
    obtain ⟨a, ma, e, _⟩ := h1 p hp
    rw [e]
    exact ma
  · obtain ⟨p, hp, e⟩ := h2 a ha
    exact List.mem_map.mpr ⟨p, hp, by rw [e]; rfl⟩
  · have : ∀ (M : List (Addr × List Int)), (∀ p ∈ M, ∃ a, p.2 = lsOf a) → (M.map (·.2)).Nodup → (M.map fun p => prOf p.2).Nodup := by
      intro M
      induction M with
      | nil => intro _ _; exact List.nodup_nil
      | cons p M ih =>
        intro h nd
        obtain ⟨n1, n2⟩ := List.nodup_cons.mp nd
        refine List.nodup_cons.mpr ⟨fun z => n1 ?_, ih (fun q hq => h q (List.mem_cons_of_mem _ hq)) n2⟩
        obtain ⟨q, hq, e⟩ := List.mem_map.mp z
        obtain ⟨a, ea⟩ := h p List.mem_cons_self
        obtain ⟨b, eb⟩ := h q (List.mem_cons_of_mem _ hq)
        have e : prOf q.2 = prOf p.2 := e
        rw [ea, eb] at e
        have e : b = a := e
        refine List.mem_map.mpr ⟨q, hq, ?_⟩
        show q.2 = p.2
        rw [ea, eb, e]
    exact this L' (fun p hp => let ⟨a, _, e, _⟩ := h1 p hp; ⟨a, e⟩) h3
/-! ### lists of lists of ints as data -/
def dInts (l : List Int) : PyData := .list (l.map PyData.int)
def dLists (ls : List (List Int)) : PyData := .list (ls.map dInts)
theorem dp_all (K : PySem.W.Frag) (H : Hp) : ∀ l : List Int, DpAll K H (l.map V.int) (l.map PyData.int)
  | [] => .nil
  | _ :: l => .cons (.int _) (dp_all K H l)
theorem dp_ints {K : PySem.W.Frag} {H : Hp} {a : Addr} {l : List Int} (h : H a = some (.lst (l.map V.int))) : Dp K H (.ref a) (dInts l) := .lst (SqL.of h) (dp_all K H l)
theorem dp_lists {K : PySem.W.Frag} {H : Hp} {bad : Addr → Prop} {a : Addr} {rs : List Addr} {ls : List (List Int)} (h : H a = some (.lst (rs.map V.ref))) (l : Lsts bad H rs ls) : Dp K H (.ref a) (dLists ls) := by
  refine .lst (SqL.of h) ?_
  have : ∀ {rs : List Addr} {ls : List (List Int)}, Lsts bad H rs ls → DpAll K H (rs.map V.ref) (ls.map dInts) := by
    intro rs ls h
    induction h with
    | nil => exact .nil
    | cons r t ih => exact .cons (dp_ints r.2) ih
  exact this l
theorem lay_ints : ∀ l : List Int, PyData.canLayAll0 (l.map PyData.int) = true
  | [] => rfl
  | _ :: l => lay_ints l
theorem depth_ints : ∀ l : List Int, PyData.depthAll (l.map PyData.int) ≤ 1
  | [] => Nat.zero_le _
  | x :: l => Nat.max_le.mpr ⟨by simp [PyData.depth], depth_ints l⟩
theorem lay_lists : ∀ ls : List (List Int), PyData.canLayAll0 (ls.map dInts) = true
  | [] => rfl
  | l :: ls => Bool.and_eq_true_iff.mpr ⟨lay_ints l, lay_lists ls⟩
theorem depth_lists : ∀ ls : List (List Int), PyData.depthAll (ls.map dInts) ≤ 2
  | [] => Nat.zero_le _
  | l :: ls => Nat.max_le.mpr ⟨Nat.succ_le_succ (depth_ints l), depth_lists ls⟩
theorem shaped_ints (l : List Int) : SeqAt.shaped (dInts l) = true := Bool.and_eq_true_iff.mpr ⟨lay_ints l, decide_eq_true (Nat.le_trans (Nat.succ_le_succ (depth_ints l)) (by decide))⟩
theorem shaped_lists (ls : List (List Int)) : SeqAt.shaped (dLists ls) = true := Bool.and_eq_true_iff.mpr ⟨lay_lists ls, decide_eq_true (Nat.le_trans (Nat.succ_le_succ (depth_lists ls)) (by decide))⟩
theorem eqv_ints (l : List Int) : PyData.eqv (dInts l) (dInts l) = true := SeqAt.eqv_refl _ (lay_ints l)
theorem eqv_lists (ls : List (List Int)) : PyData.eqv (dLists ls) (dLists ls) = true := SeqAt.eqv_refl _ (lay_lists ls)
end K65

namespace K65
open PySem L2
local macro_rules | `(tactic| walk_at "hs") => `(tactic| with_reducible repeat' first | assumption | exact upd_same | refine upd_keep (by assumption) ?_ | refine upd_oth (by first | assumption | exact Ne.symm (by assumption)) ?_ | refine same_ap (by assumption) ?_ | refine but_ap (by assumption) (by assumption) ?_)
theorem sub_lenP : ∀ {l m : Arr}, l.Nodup → (∀ x ∈ l, x ∈ m) → l.length ≤ m.length
  | [], m, _, _ => Nat.zero_le _
  | a :: l, m, hn, hs => by
    obtain ⟨h1, h2⟩ := List.nodup_cons.mp hn
    have ha := hs a List.mem_cons_self
    have e := List.length_erase_of_mem ha
    have p := List.length_pos_of_mem ha
    have ih := sub_lenP (l := l) (m := m.erase a) h2 fun x hx => (List.mem_erase_of_ne (fun (z : x = a) => h1 (by rw [← z]; exact hx))).mpr (hs x (List.mem_cons_of_mem _ hx))
    rw [List.length_cons]
    omega
theorem Lsts.take {bad : Addr → Prop} {H : Hp} : ∀ (i : Nat) {rs : List Addr} {ls : List (List Int)}, Lsts bad H rs ls → Lsts bad H (rs.take i) (ls.take i)
  | 0, _, _, _ => .nil
  | _ + 1, _, _, .nil => .nil
  | i + 1, _, _, .cons r t => .cons r (Lsts.take i t)
theorem cut_two (xs : List V) : cutV xs none (some 2) = xs.take 2 := by
  unfold cutV
  rw [HT.sIx_none, show (2 : Int) = ((2 : Nat) : Int) from rfl, HT.sIx_nat, List.drop_zero, Nat.sub_zero]
  rcases Nat.le_total 2 xs.length with h | h
  · rw [Nat.min_eq_left h]
  · rw [Nat.min_eq_right h, List.take_length, List.take_of_length_le h]
def spLaw (K : PySem.W.Frag) : Sp := fun vs H Q _ => ∃ (a : Addr) (ns : List Int), vs = [.ref a] ∧ SqL K H a (ns.map V.int) ∧ ns.length ≤ 63 ∧ ∀ H', Q (.bl true) H'
def sizes : List V := [.int 0, .int 1, .int 2, .int 3, .int 3, .int 4, .int 4, .int 4, .int 5, .int 5, .int 6, .int 8]
theorem sizes_at : ∀ i, i < 12 → ∃ n : Nat, n ≤ 8 ∧ sizes[i]? = some (.int (n : Int))
  | 0, _ => ⟨0, by decide, rfl⟩
  | 1, _ => ⟨1, by decide, rfl⟩
  | 2, _ => ⟨2, by decide, rfl⟩
  | 3, _ => ⟨3, by decide, rfl⟩
  | 4, _ => ⟨3, by decide, rfl⟩
  | 5, _ => ⟨4, by decide, rfl⟩
  | 6, _ => ⟨4, by decide, rfl⟩
  | 7, _ => ⟨4, by decide, rfl⟩
  | 8, _ => ⟨5, by decide, rfl⟩
  | 9, _ => ⟨5, by decide, rfl⟩
  | 10, _ => ⟨6, by decide, rfl⟩
  | 11, _ => ⟨8, by decide, rfl⟩
  | i + 12, h => by omega
/-- a def that the law calls, by its name -/
structure Called (P : Program) (w : World) (K : PySem.W.Frag) (mg : Str → Option Value) (base : Heap) (k : Nat) (x : Str) (ps : List Str) (sp : Sp) : Prop where
  ex : ∃ (f : Addr) (fd : FuncData), FnOk P w K mg base CX0 k f fd ps sp ∧ Binds K fd ps [] ∧ mg x = some (.ref f) ∧ PySem.W.keepIn K (.ref f) = true
section
variable {P : Program} {w : World} {K : PySem.W.Frag} {mg : Str → Option Value} {base : Heap}
theorem ok_law {f C fI fR T0 : Addr} {fd fdI fdR : FuncData} {dd : List Value} (F : Fun K "law" "law" sLaw f fd) (T : GTxt K mg C) (MG : Mk K C fI) (mG : mg "Graph" = some (.ref C)) (GI : FnOk P w K mg base CX0 1 fI fdI ["self", "size", "arrows"] (spGInit K C)) (bI3 : Binds K fdI ["self", "size", "arrows"] []) (bI2 : Binds K fdI ["self", "size", "arrows"] dd) (vd : Vals [.ref T0] dd)
    (hT0 : ∀ H : Hp, SqT K H T0 []) (mR : Meth K C "ring" fR) (GR : FnOk P w K mg base CX0 5 fR fdR ["self"] (spRing C)) (bR : Binds K fdR ["self"] [])
    (cP : Called P w K mg base 1 "_law_pot" ["_law_script", "_law_k"] (spPot K)) (cD : Called P w K mg base 1 "_law_draw" ["_law_pot_here", "_law_many"] spDraw) (cA : Called P w K mg base 3 "_law_arrows" ["_law_pot_here", "_law_size"] spArrows)
    (cW : Called P w K mg base 1 "_law_ways" ["_law_size", "_law_arrows_here"] (spWays K)) (cL : Called P w K mg base 2 "_law_first_orders" ["_law_size", "_law_arrows_here", "_law_most"] (spLOrders K)) (cC : Called P w K mg base 2 "order_count" ["graph"] (spCount C))
    (cT : Called P w K mg base 6 "_law_told_orders" ["_law_graph", "_law_most"] (spTold C)) (cF : Called P w K mg base 3 "first_order" ["graph"] (spFirst K C))
    (zset : mg "set" = none) (zsorted : mg "sorted" = none) (ztuple : mg "tuple" = none) (zisi : mg "isinstance" = none) (zint : mg "int" = none) (zbool : mg "bool" = none) (zlist : mg "list" = none) : FnOk P w K mg base CX0 7 f fd ["_law_script"] (spLaw K) := by
  obtain ⟨fP, fdP, GP, bP, mP, kP⟩ := cP.ex
  obtain ⟨fD, fdD, GD, bD, mD, kD⟩ := cD.ex
  obtain ⟨fA, fdA, GA, bA, mA, kA⟩ := cA.ex
  obtain ⟨fW, fdW, GW, bW, mW, kW⟩ := cW.ex
  obtain ⟨fL, fdL, GL, bL, mL, kL⟩ := cL.ex
  obtain ⟨fC, fdC, GC, bC, mC, kC⟩ := cC.ex
  obtain ⟨fT, fdT, GT, bT, mT, kT⟩ := cT.ex
  obtain ⟨fF, fdF, GF, bF, mF, kF⟩ := cF.ex
  refine F.ok scLaw (fun vs H Q E h => ?_) (fun cdv A outer s H vs Q E hr h => ?_)
  · obtain ⟨a, ns, rfl, _⟩ := h
    rfl
  · obtain ⟨a, ns, rfl, hS, hlen, k⟩ := h
    have hr1 : Room 1 _ := hr.mono (by decide)
    have hr2 : Room 2 _ := hr.mono (by decide)
    have hr3 : Room 3 _ := hr.mono (by decide)
    have hr5 : Room 5 _ := hr.mono (by decide)
    have hu : (A.deeper (PyProof.Rows.envOfC "law" (defScope sLaw) s.heap.objs.size f cdv)).units + 64 < cLine := by have := hr.un; omega
    refine ⟨_, pss_cons (ps_set (i := 1) scLaw.nd rfl (.inl rfl) (pe_call GP hr1 (by rfl) mP kP bP .nil pass0 (pa_cons (pv 0) (pa_cons pe_int pa_nil))))
      (pss_cons (ps_set (i := 2) scLaw.nd rfl (.inl rfl) (pe_ix ix_list (pe_lst (pa_cons pe_int (pa_cons pe_int (pa_cons pe_int (pa_cons pe_int (pa_cons pe_int (pa_cons pe_int (pa_cons pe_int (pa_cons pe_int (pa_cons pe_int (pa_cons pe_int (pa_cons pe_int (pa_cons pe_int pa_nil)))))))))))))
          (pe_call GD hr1 (by rfl) mD kD bD .nil pass0 (pa_cons (pv 1) (pa_cons pe_int pa_nil))) (fun _ _ => rfl)))
      (pss_cons (ps_set (i := 3) scLaw.nd rfl (.inl rfl) (pe_call GA hr3 (by rfl) mA kA bA .nil pass0 (pa_cons (pv 1) (pa_cons (pv 2) pa_nil))))
      (pss_cons (ps_set (i := 4) scLaw.nd rfl (.inl rfl) (pe_callB (cr_sortedT rfl) (by rfl) zsorted b_sorted (pa_cons (pe_callTy (cr_setOfT rfl hu) (by rfl) zset b_set (pa_cons (pv 3) pa_nil)) pa_nil)))
      (pss_cons (ps_set (i := 5) scLaw.nd rfl (.inl rfl) (pe_make MG GI hr2 (by rfl) mG bI3 .nil pass0 (pa_cons (pv 2) (pa_cons (pe_callTy call_tuple_of (by rfl) ztuple b_tuple (pa_cons (pv 3) pa_nil)) pa_nil))))
      (Evl.pss_cut (ps_if (pt_not (pt_truth (pv 3) (by intro _; rfl))) (pss_one (ps_set (i := 5) scLaw.nd rfl (.inl rfl) (pe_make MG GI hr2 (by rfl) mG bI2 vd pass0 (pa_cons (pv 2) pa_nil)))) pss_nil)
      (pss_cons (ps_set (i := 6) scLaw.nd rfl (.inl rfl) (pe_call GW hr1 (by rfl) mW kW bW .nil pass0 (pa_cons (pv 2) (pa_cons (pv 4) pa_nil))))
      (pss_cons (ps_set (i := 7) scLaw.nd rfl (.inl rfl) (pe_lst pa_nil))
      (Evl.pss_cut (ps_if (pt_cmpR op_gt (pv 6) pe_int (nomark _)) (pss_one (ps_set (i := 7) scLaw.nd rfl (.inl rfl) (pe_call GL hr2 (by rfl) mL kL bL .nil pass0 (pa_cons (pv 2) (pa_cons (pv 4) (pa_cons pe_int pa_nil)))))) pss_nil)
      (pss_cons (ps_set (i := 8) scLaw.nd rfl (.inl rfl) (pe_call GC hr2 (by rfl) mC kC bC .nil pass0 (pa_cons (pv 5) pa_nil)))
      (pss_cons (ps_if (PW.pt (pw_or (pt_not (pt_val (pe_callB call_isi (by rfl) zisi b_isinstance (pa_cons (pv 8) (pa_cons (pe_bltn (v := .ty "int") (by rfl) zint b_int rfl) pa_nil)))))
          (pw_or (pt_val (pe_callB call_isi (by rfl) zisi b_isinstance (pa_cons (pv 8) (pa_cons (pe_bltn (v := .ty "bool") (by rfl) zbool b_bool rfl) pa_nil)))) (pw_or1 (pt_cmpR op_ne (pv 8) (pv 6) (nomark _)))))) (pss_one (ps_ret pe_bl)) pss_nil)
      (pss_cons (ps_if (PW.pt (pw_or (pt_cmpR (op_neD hu) (pe_call GT hr (by rfl) mT kT bT .nil pass0 (pa_cons (pv 5) (pa_cons pe_int pa_nil))) (pe_slice sl_list (pv 7) po_none (po_some pe_int)) (nomark _))
          (pw_or1 (pt_cmpR (op_neD hu) (pe_call GT hr (by rfl) mT kT bT .nil pass0 (pa_cons (pv 5) (pa_cons pe_int pa_nil))) (pv 7) (nomark _))))) (pss_one (ps_ret pe_bl)) pss_nil)
      (pss_cons (ps_set (i := 9) scLaw.nd rfl (.inl rfl) (pe_call GF hr3 (by rfl) mF kF bF .nil pass0 (pa_cons (pv 5) pa_nil)))
      (pss_cons (ps_if (pt_cmpR op_eq (pv 6) pe_int (nomark _)) (pss_one (ps_ret (pe_and (pe_cmpR op_isN (pv 9) pe_non (nomark _)) (pe_one (pe_callB call_isi (by rfl) zisi b_isinstance (pa_cons (pe_meth0 (pv 5) T.cl mR GR hr5 bR .nil pass0) (pa_cons (pe_bltn (v := .ty "list") (by rfl) zlist b_list rfl) pa_nil))))))) pss_nil)
      (pss_one (ps_ret (pe_and (pe_callB call_isi (by rfl) zisi b_isinstance (pa_cons (pv 9) (pa_cons (pe_bltn (v := .ty "list") (by rfl) zlist b_list rfl) pa_nil)))
        (pe_and (pe_cmpR (op_eqD hu) (pv 9) (pe_ix ix_list (pv 7) pe_int (fun _ _ => rfl)) (nomark _)) (pe_one (pe_cmpR op_isN (pe_meth0 (pv 5) T.cl mR GR hr5 bR .nil pass0) pe_non (nomark _)))))))))))))))))))), ?_⟩
    refine ⟨_, rfl, a, ns, 0, rfl, hS, hlen, fun H1 p s1 p0 pt1 => ?_⟩
    refine ⟨(show 12 ≤ sizeLine by decide), fun z hz => ?_⟩
    have npz : p ≠ z := pt1.ne hz
    have hz1 : L2.upd H1 z (.lst sizes) z = some (.lst sizes) := upd_same
    refine ⟨_, rfl, p, 12, rfl, by decide, pot_upd pt1 npz, fun H2 d sb2 pt2 d0 d1 => ?_⟩
    obtain ⟨n, hn, en⟩ := sizes_at d.toNat (by omega)
    refine ⟨z, sizes, d, _, rfl, rfl, SqL.of (sb2 _ _ (Ne.symm npz) hz1), at_of (j := d.toNat) (by omega) en, ?_⟩
    refine ⟨_, rfl, _, rfl, p, n, rfl, hn, pt2, fun H3 q ps ar _ _ _ hq hA hO hl => ?_⟩
    obtain ⟨z1, z2, z3, z4⟩ := zip_tup (K := K) hA
    refine ⟨_, rfl, q, ps.zip (ar.map lsOf), rfl, by rw [z1]; exact SqL.of hq, fun b hb => ?_, by rw [z3]; omega, fun sa L hsa hL1 hL2 => ?_⟩
    · obtain ⟨c, _, e, hc⟩ := z2 b hb
      rw [e]
      exact SqT.of hc
    have inL : ∀ b ∈ L, ∃ c ∈ ar, b.2 = lsOf c ∧ L2.upd H3 sa (SetTO P w sa L) b.1 = some (.tup [.int c.1, .int c.2]) := fun b hb => by
      obtain ⟨c, mc, e, hc⟩ := z2 b (hL1 b hb)
      exact ⟨c, mc, e, upd_keep hsa hc⟩
    refine ⟨sa, L, 2, 9, rfl, upd_same, fun b hb => ?_, by decide, fun b hb => ?_, fun L' kp pm nd _ _ hkp => ?_⟩
    · obtain ⟨c, _, e, hc⟩ := inL b hb
      rw [e]
      exact SqT.of hc
    · obtain ⟨c, mc, e, _⟩ := inL b hb
      rw [e]
      refine ⟨rfl, fun m hm => ?_⟩
      obtain ⟨_, b1, b2⟩ := hO c mc
      rcases List.mem_cons.mp hm with y | y
      · omega
      · have y := List.mem_singleton.mp y
        omega
    let H4 := L2.upd (L2.upd H3 sa (SetTO P w sa L)) kp (.lst (L'.map fun b => V.ref b.1))
    obtain ⟨kA, kmem, knd⟩ := known_of (H := H4) (ar := ar) (L' := L') (fun b hb => by
      obtain ⟨c, mc, e, hc⟩ := inL b (pm.mem_iff.mp hb)
      exact ⟨c, mc, e, upd_keep hkp hc⟩) (fun c mc => by
      have h1 : lsOf c ∈ (ps.zip (ar.map lsOf)).map (·.2) := by rw [z4]; exact List.mem_map.mpr ⟨c, mc, rfl⟩
      obtain ⟨b, mb, e⟩ := List.mem_map.mp h1
      obtain ⟨b2, mb2, e2⟩ := List.mem_map.mp (hL2 b mb)
      exact ⟨b2, pm.mem_iff.mpr mb2, e2.trans e⟩) nd
    have hkp4 : H4 kp = some (.lst ((L'.map (·.1)).map V.ref)) := by
      show L2.upd _ kp _ kp = _
      rw [upd_same, List.map_map]; rfl
    have s34 : Same H3 H4 := (same_new hsa).trans (same_new hkp)
    have hq4 : H4 q = some (.lst (ps.map V.ref)) := s34 _ _ hq
    have hA4 : Arrs H4 ps ar := hA.same fun _ _ e => s34 _ _ e
    generalize L'.map (·.1) = ks at kA hkp4
    generalize (L'.map fun b => prOf b.2) = kr at kA kmem knd
    have klen : kr.length ≤ 11 := Nat.le_trans (sub_lenP knd fun x hx => (kmem x).mp hx) hl
    have kO : ArOk n kr := fun x hx => hO x ((kmem x).mp hx)
    refine ⟨_, rfl, _, rfl, q, _, rfl, .inl ⟨SqL.of hq4, fun t ht => ?_⟩⟩
    have mk : ∀ (H5 : Hp) (b : Addr) (ps2 : List Addr) (ar2 : Arr), Same H4 H5 → SqT K H5 b (ps2.map V.ref) → Arrs H5 ps2 ar2 → (∀ x, x ∈ ar2 ↔ x ∈ ar) → ar2.length ≤ 11 → ∀ x dx : Addr, H5 x = none → H5 dx = none → dx ≠ x → ∀ Qg : VK, (∀ (H6 : Hp) (ar' : Arr), (∀ y, y ∈ ar' ↔ y ∈ kr) → ar'.length ≤ 11 → GraphAt C H6 x n ar' → Same H4 H6 → Qg .non H6) →
        spGInit K C [.ref x, .int (n : Int), .ref b] (L2.upd (L2.upd H5 dx (.own x)) x (.ins C dx [])) Qg E0 := by
      intro H5 b ps2 ar2 s5 hb hA5 hmem hl2 x dx nx ndx ndx2 Qg kg
      have nx2 : L2.upd H5 dx (.own x) x = none := by rw [upd_ne (Ne.symm ndx2)]; exact nx
      have s6 : Same H5 (L2.upd (L2.upd H5 dx (.own x)) x (.ins C dx [])) := (same_new ndx).trans (same_new nx2)
      refine ⟨x, b, dx, n, ps2, ar2, rfl, upd_same, sqt_same s6 hb, hA5.same fun _ _ e => s6 _ _ e, fun y hy => hO y ((hmem y).mp hy), hl2, hn, fun H6 ar' m6 l6 gA sb => ?_⟩
      exact kg H6 ar' (fun y => (m6 y).trans ((hmem y).trans (kmem y).symm)) l6 gA fun c o e => sb c o (ne_of_none (s5 _ _ e) nx) (s6 _ _ (s5 _ _ e))
    have s4t := same_new (o := .tup (ps.map V.ref)) ht
    refine fun g0 dx0 nx0 ndx0 nex0 => mk _ t ps ar s4t (SqT.of upd_same) (hA4.same fun _ _ e => s4t _ _ e) (fun _ => Iff.rfl) hl g0 dx0 nx0 ndx0 nex0 _ fun H6 ar0 m6 l6 gA6 s46 => ⟨rfl, ?_⟩
    refine ⟨fun σ H' => ∃ (g : Addr) (ar' : Arr), σ = [some (.ref a), some (.ref p), some (.int n), some (.ref q), some (.ref kp), some (.ref g), none, none, none, none] ∧ (∀ y, y ∈ ar' ↔ y ∈ kr) ∧ ar'.length ≤ 11 ∧ GraphAt C H' g n ar' ∧ Same H4 H', ?_, ?_⟩
    · refine ⟨_, rfl, _, .inl ⟨_, SqL.of (s46 _ _ hq4), rfl⟩, ?_⟩
      cases ps with
      | nil =>
        cases hA
        refine iteT ⟨_, rfl, ?_⟩
        exact fun g1 dx1 nx1 ndx1 nex1 => mk H6 T0 [] [] s46 (hT0 _) .nil (fun _ => Iff.rfl) (Nat.zero_le _) g1 dx1 nx1 ndx1 nex1 _ fun H7 ar1 m7 l7 gA7 s47 => ⟨rfl, g1, ar1, rfl, m7, l7, gA7, s47⟩
      | cons _ _ => exact iteF ⟨g0, ar0, rfl, m6, l6, gA6, s46⟩
    rintro σ H7 ⟨g, gr, rfl, gm, gl, gA, s47⟩
    have gO : ArOk n gr := fun y hy => kO y ((gm y).mp hy)
    have ee : ext n gr n [] = ext n kr n [] := ext_same gm n []
    refine ⟨_, rfl, _, rfl, kp, n, ks, kr, rfl, SqL.of (s47 _ _ hkp4), kA.same (fun _ _ e => s47 _ _ e), hn, klen, kO, knd, fun H8 s78 => ?_⟩
    have s48 := s47.trans s78
    refine ⟨Nat.zero_le _, fun d0 hd0 => ?_⟩
    have s89 := same_new (o := .lst []) hd0
    refine ⟨fun σ H' => ∃ (dl : Addr) (rs : List Addr), σ = [some (.ref a), some (.ref p), some (.int n), some (.ref q), some (.ref kp), some (.ref g), some (.int ((cnt n kr n [] : Nat) : Int)), some (.ref dl), none, none] ∧ Same H8 H' ∧ H' dl = some (.lst (rs.map V.ref)) ∧ Lsts (fun _ => False) H' rs ((ext n kr n []).take 121), ?_, ?_⟩
    · refine ⟨_, rfl, _, _, rfl, rfl, _, rfl, ite2 (fun c => ?_) (fun c => ?_)⟩
      · have c : (0 : Int) < ((cnt n kr n [] : Nat) : Int) := of_decide_eq_true c
        have hne : ext n kr n [] ≠ [] := fun e => by rw [cnt_len, e] at c; simp at c
        refine ⟨_, rfl, _, rfl, kp, n, ks, kr, rfl, SqL.of (s89 _ _ (s48 _ _ hkp4)), kA.same (fun _ _ e => s89 _ _ (s48 _ _ e)), hn, klen, hne, fun H9 r rs s9 _ hr9 l9 => ?_⟩
        exact ⟨r, rs, rfl, s89.trans s9, hr9, l9⟩
      · have e : ext n kr n [] = [] := by
          apply List.eq_nil_of_length_eq_zero
          rw [← cnt_len]
          have : ¬ (0 : Int) < ((cnt n kr n [] : Nat) : Int) := fun y => c (decide_eq_true y)
          omega
        refine ⟨d0, [], rfl, s89, upd_same, ?_⟩
        rw [e]
        exact .nil
    rintro σ H9 ⟨dl, rs, rfl, s89', hdl, ldl⟩
    have gA9 : GraphAt C H9 g n gr := (gA.same s78).same s89'
    refine ⟨_, rfl, g, n, gr, rfl, gA9, hn, gl, fun Ha sa9 => ?_⟩
    rw [cnt_same gm]
    have gAa := gA9.same sa9
    have hdla := sa9 _ _ hdl
    have ldla : Lsts (fun _ => False) Ha rs ((ext n kr n []).take 121) := ldl.to fun r o _ e => ⟨fun y => y, sa9 _ _ e⟩
    refine ⟨_, rfl, .int _, .ty "int", .type "int", .type "int", true, rfl, .ty _, .base (.int _), kit_ty (by decide +kernel), true, rfl, iteF ?_⟩
    refine ⟨_, rfl, .int _, .ty "bool", .type "int", .type "bool", false, rfl, .ty _, .base (.int _), kit_ty (by decide +kernel), false, rfl, iteF ?_⟩
    refine ⟨_, rfl, _, rfl, rfl, _, rfl, ?_⟩
    rw [decide_eq_true rfl]
    refine iteF ?_
    -- told twice
    refine ⟨_, rfl, g, n, 2, gr, rfl, gAa, hn, gl, by decide, by decide, fun Hb t1 r1 sb _ ht1 l1 => ?_⟩
    refine ⟨_, rfl, _, rfl, dl, _, rfl, SqL.of (sb _ _ hdla), fun sl hsl => ?_⟩
    rw [cut_two]
    have sbc := same_new (o := .lst ((rs.map V.ref).take 2)) hsl
    rw [ee] at l1
    refine ⟨dLists ((ext n kr n []).take 2), dLists ((ext n kr n []).take 2), dp_lists (sbc _ _ ht1) (l1.to fun r o nr e => ⟨nr, sbc _ _ e⟩), ?_, shaped_lists _, shaped_lists _, _, rfl, ?_⟩
    · have l2 : Lsts (fun _ => False) (L2.upd Hb sl (.lst ((rs.map V.ref).take 2))) (rs.take 2) (((ext n kr n []).take 121).take 2) := (ldla.take 2).to fun r o nr e => ⟨nr, sbc _ _ (sb _ _ e)⟩
      rw [List.take_take] at l2
      exact dp_lists (by rw [upd_same, List.map_take]) l2
    rw [eqv_lists]
    refine iteF ?_
    have sac := sb.trans sbc
    refine ⟨_, rfl, g, n, 121, gr, rfl, gAa.same sac, hn, gl, by decide, by decide, fun Hd t2 r2 sd _ ht2 l2 => ?_⟩
    rw [ee] at l2
    have sad := sac.trans sd
    have ldld : Lsts (fun _ => False) Hd rs ((ext n kr n []).take 121) := ldla.to fun r o nr e => ⟨nr, sad _ _ e⟩
    refine ⟨_, rfl, dLists ((ext n kr n []).take 121), dLists ((ext n kr n []).take 121), dp_lists ht2 l2, dp_lists (sad _ _ hdla) ldld, shaped_lists _, shaped_lists _, _, rfl, ?_⟩
    rw [eqv_lists]
    refine iteF ?_
    have gAd := gAa.same sad
    -- the first one
    refine ⟨_, rfl, g, n, gr, rfl, gAd, hn, gl, ?_⟩
    rw [comp_first, ee]
    obtain ⟨dx, tg, pg, hg1, _, _⟩ := id gAd
    cases e : ext n kr n [] with
    | nil =>
      refine fun He sde => ?_
      have gAe := gAd.same sde
      refine ⟨_, rfl, rfl, _, rfl, ?_⟩
      rw [decide_eq_true (by rw [cnt_len, e]; rfl)]
      refine iteT ⟨_, rfl, rfl, _, rfl, ?_⟩
      rw [decide_eq_true rfl]
      refine iteT ⟨_, rfl, g, dx, _, rfl, sde _ _ hg1, gfs_no _ _ (by decide +kernel) (by decide +kernel), g, n, gr, rfl, gAe, gl, hn, gO, fun Hf sef => ⟨fun y => absurd (ee.trans e) y, fun _ qr zs hz => ?_⟩⟩
      exact ⟨.ref qr, .ty "list", .type "list", .type "list", true, rfl, .ty _, .base (.lst hz), kit_ty (by decide +kernel), k Hf⟩
    | cons L more =>
      refine fun He fq sde _ hfq => ?_
      have gAe := gAd.same sde
      have hdle : He dl = some (.lst (rs.map V.ref)) := sde _ _ (sad _ _ hdla)
      have lde : Lsts (fun _ => False) He rs ((L :: more).take 121) := by
        rw [← e]
        exact ldld.to fun r o nr y => ⟨nr, sde _ _ y⟩
      refine ⟨_, rfl, rfl, _, rfl, ?_⟩
      rw [decide_eq_false (fun y => by
        have y := V.int.inj y
        rw [cnt_len, e, List.length_cons] at y
        omega)]
      refine iteF ?_
      refine ⟨_, rfl, .ref fq, .ty "list", .type "list", .type "list", true, rfl, .ty _, .base (.lst hfq), kit_ty (by decide +kernel), true, rfl, iteT ?_⟩
      cases lde with
      | cons h0 t0 =>
        refine ⟨_, rfl, _, rfl, dl, _, _, _, rfl, rfl, SqL.of hdle, at_of (j := 0) rfl rfl, dInts L, dInts L, dp_ints hfq, dp_ints h0.2, shaped_ints _, shaped_ints _, _, rfl, ?_⟩
        rw [eqv_ints]
        refine iteT ⟨_, rfl, g, dx, _, rfl, sde _ _ hg1, gfs_no _ _ (by decide +kernel) (by decide +kernel), g, n, gr, rfl, gAe, gl, hn, gO, fun Hf sef => ⟨fun _ => ⟨rfl, ?_⟩, fun y => ?_⟩⟩
        · rw [decide_eq_true rfl]
          exact k Hf
        · rw [ee, e] at y
          cases y
end
end K65

namespace K65
open PySem L2
/-- what the top has written -/
theorem all_mk {l : PySem.W.OpenLaw} {w : World} {K : PySem.W.Frag} {h : Heap} {mg : Str → Option Value} {fa C T0 TD : Addr} {ffr fco ffi fne fog fct fpo fdr fli far fwy flf flo fto fla ffo fst fen fpa fri fgi : Addr} (X : K.In h) (G : h.Ns mainGlobals mg) (hfa : mg "law" = some (.ref fa))
    {odT odD odfr anfr odco anco odfi anfi odne anne odog anog odct anct odpo anpo oddr andr odli anli odar anar odwy anwy odlf anlf odlo anlo odto anto odla anla odfo anfo odst anst oden anen odpa anpa odri anri odgi angi : Option Addr} {slT slD slfr slco slfi slne slog slct slpo sldr slli slar slwy sllf sllo slto slla slfo slst slen slpa slri slgi : Array (Option Value)} {nT nD : Nat} {ocD ocfr kVfr dcfr pmfr cdfr ctfr occo kVco dcco pmco cdco ctco ocfi kVfi dcfi pmfi cdfi ctfi ocne kVne dcne pmne cdne ctne ocog kVog dcog pmog cdog ctog occt kVct dcct pmct cdct ctct ocpo kVpo dcpo pmpo cdpo ctpo ocdr kVdr dcdr pmdr cddr ctdr ocli kVli dcli pmli cdli ctli ocar kVar dcar pmar cdar ctar ocwy kVwy dcwy pmwy cdwy ctwy oclf kVlf dclf pmlf cdlf ctlf oclo kVlo dclo pmlo cdlo ctlo octo kVto dcto pmto cdto ctto ocla kVla dcla pmla cdla ctla ocfo kVfo dcfo pmfo cdfo ctfo ocst kVst dcst pmst cdst ctst ocen kVen dcen pmen cden cten ocpa kVpa dcpa pmpa cdpa ctpa ocri kVri dcri pmri cdri ctri ocgi kVgi dcgi pmgi cdgi ctgi : Value}
    (afr : PySem.W.nsIn K mainGlobals "free_nodes" = some (some (.ref ffr))) (lfr : K.lookup ffr = some ⟨ocfr, odfr, .func (PySem.W.fnOf "free_nodes" "free_nodes" (defArgs sFree) (defBody sFree) (defScope sFree) .none kVfr dcfr pmfr anfr cdfr ctfr), slfr⟩) (cfr : PySem.W.codeIn K cdfr "free_nodes" = true) (kfr : PySem.W.keepIn K (.ref ffr) = true)
    (aco : PySem.W.nsIn K mainGlobals "completed" = some (some (.ref fco))) (lco : K.lookup fco = some ⟨occo, odco, .func (PySem.W.fnOf "completed" "completed" (defArgs sCompleted) (defBody sCompleted) (defScope sCompleted) .none kVco dcco pmco anco cdco ctco), slco⟩) (cco : PySem.W.codeIn K cdco "completed" = true) (kco : PySem.W.keepIn K (.ref fco) = true)
    (afi : PySem.W.nsIn K mainGlobals "first_order" = some (some (.ref ffi))) (lfi : K.lookup ffi = some ⟨ocfi, odfi, .func (PySem.W.fnOf "first_order" "first_order" (defArgs sFirst) (defBody sFirst) (defScope sFirst) .none kVfi dcfi pmfi anfi cdfi ctfi), slfi⟩) (cfi : PySem.W.codeIn K cdfi "first_order" = true) (kfi : PySem.W.keepIn K (.ref ffi) = true)
    (ane : PySem.W.nsIn K mainGlobals "next_order" = some (some (.ref fne))) (lne : K.lookup fne = some ⟨ocne, odne, .func (PySem.W.fnOf "next_order" "next_order" (defArgs sNext) (defBody sNext) (defScope sNext) .none kVne dcne pmne anne cdne ctne), slne⟩) (cne : PySem.W.codeIn K cdne "next_order" = true) (kne : PySem.W.keepIn K (.ref fne) = true)
    (aog : PySem.W.nsIn K mainGlobals "orders" = some (some (.ref fog))) (log : K.lookup fog = some ⟨ocog, odog, .func (PySem.W.fnOf "orders" "orders" (defArgs sOrders) (defBody sOrders) (defScope sOrders) .none kVog dcog pmog anog cdog ctog), slog⟩) (cog : PySem.W.codeIn K cdog "orders" = true) (kog : PySem.W.keepIn K (.ref fog) = true)
    (act : PySem.W.nsIn K mainGlobals "order_count" = some (some (.ref fct))) (lct : K.lookup fct = some ⟨occt, odct, .func (PySem.W.fnOf "order_count" "order_count" (defArgs sCount) (defBody sCount) (defScope sCount) .none kVct dcct pmct anct cdct ctct), slct⟩) (cct : PySem.W.codeIn K cdct "order_count" = true) (kct : PySem.W.keepIn K (.ref fct) = true)
    (apo : PySem.W.nsIn K mainGlobals "_law_pot" = some (some (.ref fpo))) (lpo : K.lookup fpo = some ⟨ocpo, odpo, .func (PySem.W.fnOf "_law_pot" "_law_pot" (defArgs sPot) (defBody sPot) (defScope sPot) .none kVpo dcpo pmpo anpo cdpo ctpo), slpo⟩) (cpo : PySem.W.codeIn K cdpo "_law_pot" = true) (kpo : PySem.W.keepIn K (.ref fpo) = true)
    (adr : PySem.W.nsIn K mainGlobals "_law_draw" = some (some (.ref fdr))) (ldr : K.lookup fdr = some ⟨ocdr, oddr, .func (PySem.W.fnOf "_law_draw" "_law_draw" (defArgs sDraw) (defBody sDraw) (defScope sDraw) .none kVdr dcdr pmdr andr cddr ctdr), sldr⟩) (cdr : PySem.W.codeIn K cddr "_law_draw" = true) (kdr : PySem.W.keepIn K (.ref fdr) = true)
    (ali : PySem.W.nsIn K mainGlobals "_law_lined" = some (some (.ref fli))) (lli : K.lookup fli = some ⟨ocli, odli, .func (PySem.W.fnOf "_law_lined" "_law_lined" (defArgs sLined) (defBody sLined) (defScope sLined) .none kVli dcli pmli anli cdli ctli), slli⟩) (cli : PySem.W.codeIn K cdli "_law_lined" = true) (kli : PySem.W.keepIn K (.ref fli) = true)
    (aar : PySem.W.nsIn K mainGlobals "_law_arrows" = some (some (.ref far))) (lar : K.lookup far = some ⟨ocar, odar, .func (PySem.W.fnOf "_law_arrows" "_law_arrows" (defArgs sArrows) (defBody sArrows) (defScope sArrows) .none kVar dcar pmar anar cdar ctar), slar⟩) (car : PySem.W.codeIn K cdar "_law_arrows" = true) (kar : PySem.W.keepIn K (.ref far) = true)
    (awy : PySem.W.nsIn K mainGlobals "_law_ways" = some (some (.ref fwy))) (lwy : K.lookup fwy = some ⟨ocwy, odwy, .func (PySem.W.fnOf "_law_ways" "_law_ways" (defArgs sWays) (defBody sWays) (defScope sWays) .none kVwy dcwy pmwy anwy cdwy ctwy), slwy⟩) (cwy : PySem.W.codeIn K cdwy "_law_ways" = true) (kwy : PySem.W.keepIn K (.ref fwy) = true)
    (alf : PySem.W.nsIn K mainGlobals "_law_free" = some (some (.ref flf))) (llf : K.lookup flf = some ⟨oclf, odlf, .func (PySem.W.fnOf "_law_free" "_law_free" (defArgs sLFree) (defBody sLFree) (defScope sLFree) .none kVlf dclf pmlf anlf cdlf ctlf), sllf⟩) (clf : PySem.W.codeIn K cdlf "_law_free" = true) (klf : PySem.W.keepIn K (.ref flf) = true)
    (alo : PySem.W.nsIn K mainGlobals "_law_first_orders" = some (some (.ref flo))) (llo : K.lookup flo = some ⟨oclo, odlo, .func (PySem.W.fnOf "_law_first_orders" "_law_first_orders" (defArgs sLOrders) (defBody sLOrders) (defScope sLOrders) .none kVlo dclo pmlo anlo cdlo ctlo), sllo⟩) (clo : PySem.W.codeIn K cdlo "_law_first_orders" = true) (klo : PySem.W.keepIn K (.ref flo) = true)
    (ato : PySem.W.nsIn K mainGlobals "_law_told_orders" = some (some (.ref fto))) (lto : K.lookup fto = some ⟨octo, odto, .func (PySem.W.fnOf "_law_told_orders" "_law_told_orders" (defArgs sTold) (defBody sTold) (defScope sTold) .none kVto dcto pmto anto cdto ctto), slto⟩) (cto : PySem.W.codeIn K cdto "_law_told_orders" = true) (kto : PySem.W.keepIn K (.ref fto) = true)
    (ala : PySem.W.nsIn K mainGlobals "law" = some (some (.ref fla))) (lla : K.lookup fla = some ⟨ocla, odla, .func (PySem.W.fnOf "law" "law" (defArgs sLaw) (defBody sLaw) (defScope sLaw) .none kVla dcla pmla anla cdla ctla), slla⟩) (cla : PySem.W.codeIn K cdla "law" = true) (kla : PySem.W.keepIn K (.ref fla) = true)
    (afo : PySem.W.findIn K (.ref C) "followers" = some (some (.ref ffo))) (ifo : PySem.W.isFn K (.ref ffo) = true) (lfo : K.lookup ffo = some ⟨ocfo, odfo, .func (PySem.W.fnOf "followers" "Graph.followers" (defArgs sFollowers) (defBody sFollowers) (defScope sFollowers) .none kVfo dcfo pmfo anfo cdfo ctfo), slfo⟩) (cfo : PySem.W.codeIn K cdfo "Graph.followers" = true) (kfo : PySem.W.keepIn K (.ref ffo) = true)
    (ast : PySem.W.findIn K (.ref C) "steps_to" = some (some (.ref fst))) (ist : PySem.W.isFn K (.ref fst) = true) (lst : K.lookup fst = some ⟨ocst, odst, .func (PySem.W.fnOf "steps_to" "Graph.steps_to" (defArgs sSteps) (defBody sSteps) (defScope sSteps) .none kVst dcst pmst anst cdst ctst), slst⟩) (cst : PySem.W.codeIn K cdst "Graph.steps_to" = true) (kst : PySem.W.keepIn K (.ref fst) = true)
    (aen : PySem.W.findIn K (.ref C) "enters" = some (some (.ref fen))) (ien : PySem.W.isFn K (.ref fen) = true) (len : K.lookup fen = some ⟨ocen, oden, .func (PySem.W.fnOf "enters" "Graph.enters" (defArgs sEnters) (defBody sEnters) (defScope sEnters) .none kVen dcen pmen anen cden cten), slen⟩) (cen : PySem.W.codeIn K cden "Graph.enters" = true) (ken : PySem.W.keepIn K (.ref fen) = true)
    (apa : PySem.W.findIn K (.ref C) "path" = some (some (.ref fpa))) (ipa : PySem.W.isFn K (.ref fpa) = true) (lpa : K.lookup fpa = some ⟨ocpa, odpa, .func (PySem.W.fnOf "path" "Graph.path" (defArgs sPath) (defBody sPath) (defScope sPath) .none kVpa dcpa pmpa anpa cdpa ctpa), slpa⟩) (cpa : PySem.W.codeIn K cdpa "Graph.path" = true) (kpa : PySem.W.keepIn K (.ref fpa) = true)
    (ari : PySem.W.findIn K (.ref C) "ring" = some (some (.ref fri))) (iri : PySem.W.isFn K (.ref fri) = true) (lri : K.lookup fri = some ⟨ocri, odri, .func (PySem.W.fnOf "ring" "Graph.ring" (defArgs sRing) (defBody sRing) (defScope sRing) .none kVri dcri pmri anri cdri ctri), slri⟩) (cri : PySem.W.codeIn K cdri "Graph.ring" = true) (kri : PySem.W.keepIn K (.ref fri) = true)
    (agi : PySem.W.findIn K (.ref C) "__init__" = some (some (.ref fgi))) (igi : PySem.W.isFn K (.ref fgi) = true) (lgi : K.lookup fgi = some ⟨ocgi, odgi, .func (PySem.W.fnOf "__init__" "Graph.__init__" (defArgs sGInit) (defBody sGInit) (defScope sGInit) (.ref TD) kVgi dcgi pmgi angi cdgi ctgi), slgi⟩) (cgi : PySem.W.codeIn K cdgi "Graph.__init__" = true) (kgi : PySem.W.keepIn K (.ref fgi) = true)
    (lTD : K.lookup TD = some ⟨ocD, odD, .seq #[.ref T0] nD, slD⟩) (lT0 : K.lookup T0 = some ⟨.type "tuple", odT, .seq #[] nT, slT⟩)
    (aC : PySem.W.nsIn K mainGlobals "Graph" = some (some (.ref C))) (pg : PySem.W.plainGet K C Str.empty = true) (hd : PySem.W.hasDictIn K C = true) (po : PySem.W.plainOver K C = true) (sa : PySem.W.findIn K (.ref C) "__setattr__" = some (some (.builtin "object.__setattr__"))) (mk : PySem.W.makesIn K C = true) (kc : PySem.W.keepIn K (.ref C) = true)
    (nS : PySem.W.findIn K (.ref C) "size" = some none) (nA : PySem.W.findIn K (.ref C) "arrows" = some none)
    (zint : PySem.W.nsIn K mainGlobals "int" = some none) (zlist : PySem.W.nsIn K mainGlobals "list" = some none) (ztuple : PySem.W.nsIn K mainGlobals "tuple" = some none) (zset : PySem.W.nsIn K mainGlobals "set" = some none) (zbool : PySem.W.nsIn K mainGlobals "bool" = some none) (zrange : PySem.W.nsIn K mainGlobals "range" = some none) (zlen : PySem.W.nsIn K mainGlobals "len" = some none) (zabs : PySem.W.nsIn K mainGlobals "abs" = some none) (zsum : PySem.W.nsIn K mainGlobals "sum" = some none) (zsorted : PySem.W.nsIn K mainGlobals "sorted" = some none) (zmin : PySem.W.nsIn K mainGlobals "min" = some none) (zany : PySem.W.nsIn K mainGlobals "any" = some none) (zisinstance : PySem.W.nsIn K mainGlobals "isinstance" = some none) :
    ∃ fd : FuncData, (∀ (s : Shared) (v : Value), BindsTo s fd ⟨[v], []⟩ [("_law_script", v)]) ∧ ∀ base : Heap, K.In base → base.Ns mainGlobals mg → FnOk l.prog w K mg base CX0 7 fa fd ["_law_script"] (spLaw K) := by
  have e := hfa.symm.trans (PySem.W.mg_of X G ala)
  cases e
  have T : GTxt K mg C := ⟨⟨pg, hd, po, sa⟩, nS, nA⟩
  have zint := PySem.W.mg_none_of X G zint
  have zlist := PySem.W.mg_none_of X G zlist
  have ztuple := PySem.W.mg_none_of X G ztuple
  have zset := PySem.W.mg_none_of X G zset
  have zbool := PySem.W.mg_none_of X G zbool
  have zrange := PySem.W.mg_none_of X G zrange
  have zlen := PySem.W.mg_none_of X G zlen
  have zabs := PySem.W.mg_none_of X G zabs
  have zsum := PySem.W.mg_none_of X G zsum
  have zsorted := PySem.W.mg_none_of X G zsorted
  have zmin := PySem.W.mg_none_of X G zmin
  have zany := PySem.W.mg_none_of X G zany
  have zisinstance := PySem.W.mg_none_of X G zisinstance
  have Ffr := fun_mk (st := sFree) lfr cfr kfr
  have bfr := Ffr.binds (ps := ["graph", "placed"]) fun _ _ _ _ _ _ us hl => match us, hl with | [_, _], _ => rfl
  have Fco := fun_mk (st := sCompleted) lco cco kco
  have bco := Fco.binds (ps := ["graph", "beginning"]) fun _ _ _ _ _ _ us hl => match us, hl with | [_, _], _ => rfl
  have Ffi := fun_mk (st := sFirst) lfi cfi kfi
  have bfi := Ffi.binds (ps := ["graph"]) fun _ _ _ _ _ _ us hl => match us, hl with | [_], _ => rfl
  have Fne := fun_mk (st := sNext) lne cne kne
  have bne := Fne.binds (ps := ["graph", "order"]) fun _ _ _ _ _ _ us hl => match us, hl with | [_, _], _ => rfl
  have Fog := fun_mk (st := sOrders) log cog kog
  have bog := Fog.binds (ps := ["graph"]) fun _ _ _ _ _ _ us hl => match us, hl with | [_], _ => rfl
  have Fct := fun_mk (st := sCount) lct cct kct
  have bct := Fct.binds (ps := ["graph"]) fun _ _ _ _ _ _ us hl => match us, hl with | [_], _ => rfl
  have Fpo := fun_mk (st := sPot) lpo cpo kpo
  have bpo := Fpo.binds (ps := ["_law_script", "_law_k"]) fun _ _ _ _ _ _ us hl => match us, hl with | [_, _], _ => rfl
  have Fdr := fun_mk (st := sDraw) ldr cdr kdr
  have bdr := Fdr.binds (ps := ["_law_pot_here", "_law_many"]) fun _ _ _ _ _ _ us hl => match us, hl with | [_, _], _ => rfl
  have Fli := fun_mk (st := sLined) lli cli kli
  have bli := Fli.binds (ps := ["_law_pot_here", "_law_size"]) fun _ _ _ _ _ _ us hl => match us, hl with | [_, _], _ => rfl
  have Far := fun_mk (st := sArrows) lar car kar
  have bar := Far.binds (ps := ["_law_pot_here", "_law_size"]) fun _ _ _ _ _ _ us hl => match us, hl with | [_, _], _ => rfl
  have Fwy := fun_mk (st := sWays) lwy cwy kwy
  have bwy := Fwy.binds (ps := ["_law_size", "_law_arrows_here"]) fun _ _ _ _ _ _ us hl => match us, hl with | [_, _], _ => rfl
  have Flf := fun_mk (st := sLFree) llf clf klf
  have blf := Flf.binds (ps := ["_law_size", "_law_arrows_here", "_law_placed"]) fun _ _ _ _ _ _ us hl => match us, hl with | [_, _, _], _ => rfl
  have Flo := fun_mk (st := sLOrders) llo clo klo
  have blo := Flo.binds (ps := ["_law_size", "_law_arrows_here", "_law_most"]) fun _ _ _ _ _ _ us hl => match us, hl with | [_, _, _], _ => rfl
  have Fto := fun_mk (st := sTold) lto cto kto
  have bto := Fto.binds (ps := ["_law_graph", "_law_most"]) fun _ _ _ _ _ _ us hl => match us, hl with | [_, _], _ => rfl
  have Ffo := fun_mk (st := sFollowers) lfo cfo kfo
  have bfo := Ffo.binds (ps := ["self", "node"]) fun _ _ _ _ _ _ us hl => match us, hl with | [_, _], _ => rfl
  have Fst := fun_mk (st := sSteps) lst cst kst
  have bst := Fst.binds (ps := ["self", "goal"]) fun _ _ _ _ _ _ us hl => match us, hl with | [_, _], _ => rfl
  have Fen := fun_mk (st := sEnters) len cen ken
  have ben := Fen.binds (ps := ["self", "node", "goals"]) fun _ _ _ _ _ _ us hl => match us, hl with | [_, _, _], _ => rfl
  have Fpa := fun_mk (st := sPath) lpa cpa kpa
  have bpa := Fpa.binds (ps := ["self", "start", "goal"]) fun _ _ _ _ _ _ us hl => match us, hl with | [_, _, _], _ => rfl
  have Fri := fun_mk (st := sRing) lri cri kri
  have bri := Fri.binds (ps := ["self"]) fun _ _ _ _ _ _ us hl => match us, hl with | [_], _ => rfl
  have mfr := PySem.W.mg_of X G afr
  have mco := PySem.W.mg_of X G aco
  have mfi := PySem.W.mg_of X G afi
  have mne := PySem.W.mg_of X G ane
  have mog := PySem.W.mg_of X G aog
  have mct := PySem.W.mg_of X G act
  have mpo := PySem.W.mg_of X G apo
  have mdr := PySem.W.mg_of X G adr
  have mli := PySem.W.mg_of X G ali
  have mar := PySem.W.mg_of X G aar
  have mwy := PySem.W.mg_of X G awy
  have mlf := PySem.W.mg_of X G alf
  have mlo := PySem.W.mg_of X G alo
  have mto := PySem.W.mg_of X G ato
  have FI : FunD K "__init__" "Graph.__init__" (defArgs sGInit) (defBody sGInit) (defScope sGInit) [.ref T0] [] fgi _ := ⟨⟨_, _, _, _, _, _, _, _, _, _, rfl, lgi, cgi, .inr ⟨by simp, TD, _, [.ref T0], nD, rfl, lTD, rfl, .cons rfl .nil⟩, .inl rfl⟩, kgi⟩
  obtain ⟨d3, v3, bI3⟩ := FI.binds1 (ps := ["self", "size", "arrows"]) 3 1 (by simp) rfl fun T kV doc pm an cdv ct us its hl h1 => match us, its, hl, h1 with | [_, _, _], [_], _, _ => ⟨_, rfl, rfl⟩
  obtain ⟨d2, v2, bI2⟩ := FI.binds1 (ps := ["self", "size", "arrows"]) 2 0 (by simp) rfl fun T kV doc pm an cdv ct us its hl h1 => match us, its, hl, h1 with | [_, _], [_], _, _ => ⟨_, rfl, rfl⟩
  cases v3
  have hT0 : ∀ H : Hp, SqT K H T0 [] := fun H => .inr ⟨_, #[], nT, lT0, rfl, rfl, Nat.zero_le _, .nil⟩
  refine ⟨PySem.W.fnOf "law" "law" (defArgs sLaw) (defBody sLaw) (defScope sLaw) .none kVla dcla pmla anla cdla ctla, fun s v => .of_eq rfl, fun base _ _ => ?_⟩
  have Gfr := ok_free (P := l.prog) (w := w) (base := base) Ffr T zrange
  have Gco := ok_completed Fco T Gfr bfr mfr kfr zlist zlen
  have Gfi := ok_first Ffi Gco bco mco kco
  have Gne := ok_next Fne T Gfr bfr mfr kfr Gco bco mco kco zrange
  have Gct := ok_count Fct T Gfr bfr mfr kfr zrange ztuple zsorted zsum zlist
  have Gpo := ok_pot (P := l.prog) (w := w) (base := base) Fpo zint zlen zabs
  have Gdr := ok_draw (P := l.prog) (w := w) (base := base) Fdr zint
  have Gli := ok_lined Fli Gdr bdr mdr kdr zrange zlen
  have Gar := ok_arrows Far Gdr bdr mdr kdr Gli bli mli kli zrange zint
  have Gwy := ok_ways (P := l.prog) (w := w) (base := base) Fwy zrange zsum
  have Glf := ok_lfree (P := l.prog) (w := w) (base := base) Flf zrange
  have Glo := ok_lorders Flo Glf blf mlf klf zrange zlen
  have Gto := ok_told Fto Fog bog mog kog ⟨_, _, Gfi, bfi, mfi, kfi⟩ ⟨_, _, Gne, bne, mne, kne⟩ zisinstance zlist zlen
  have Ggi := ok_ginit (P := l.prog) (w := w) (base := base) FI T ztuple zsorted
  have Gfo := ok_foll (P := l.prog) (w := w) (base := base) Ffo T
  have Gen := ok_enters Fen T Gfo bfo ⟨afo, ifo, kfo⟩ zany
  have Gst := ok_steps Fst T Gen ben ⟨aen, ien, ken⟩ zrange
  have Gpa := ok_path Fpa T Gfo bfo ⟨afo, ifo, kfo⟩ Gst bst ⟨ast, ist, kst⟩ zlen zmin
  have Gri := ok_ring Fri T Gpa bpa ⟨apa, ipa, kpa⟩ zlen zrange
  exact ok_law (fun_mk (st := sLaw) lla cla kla) T ⟨mk, agi, igi, kc⟩ (PySem.W.mg_of X G aC) Ggi bI3 bI2 v2 hT0 ⟨ari, iri, kri⟩ Gri bri ⟨_, _, Gpo, bpo, mpo, kpo⟩ ⟨_, _, Gdr, bdr, mdr, kdr⟩ ⟨_, _, Gar, bar, mar, kar⟩ ⟨_, _, Gwy, bwy, mwy, kwy⟩
    ⟨_, _, Glo, blo, mlo, klo⟩ ⟨_, _, Gct, bct, mct, kct⟩ ⟨_, _, Gto, bto, mto, kto⟩ ⟨_, _, Gfi, bfi, mfi, kfi⟩ zset zsorted ztuple zisinstance zint zbool zlist
theorem walk {l : PySem.W.OpenLaw} {q : Program} {loose : List Str} {XP : (Str → Option Value) → Heap → Prop} {YP : World → Heap → Prop} {d : DefRec} {K : Params → PySem.W.Frag} (hn : l.most = some 63) (hdf : d.params.defaults = [])
    (hY : ∀ (w : World) (h : Heap), YP w h → (K w.params).In h)
    (F : ∀ (w : World) (mg : Str → Option Value) (fa : Addr) (h : Heap), (K w.params).In h → h.Ns mainGlobals mg → mg d.name = some (.ref fa) →
      ∃ fd : FuncData, (∀ (s : Shared) (u : Value), BindsTo s fd ⟨[u], []⟩ [("_law_script", u)]) ∧ ∀ base : Heap, (K w.params).In base → base.Ns mainGlobals mg → FnOk l.prog w (K w.params) mg base CX0 7 fa fd ["_law_script"] (spLaw (K w.params))) :
    PySem.W.WalkO q loose XP YP l.row.toRowW d [] (fun f vs => PySem.call f vs) :=
  L2.walk_of (n := 63) (k := 7) (x := "_law_script") (CX := fun _ => CX0) (sp := fun w => spLaw (K w.params)) hn (by decide) hdf ⟨rfl, by decide, by decide⟩ hY F (fun _ _ a ns hl _ hS => ⟨a, ns, rfl, hS, hl, fun _ => rfl⟩) fun _ _ _ _ _ z => z
end K65

open PySem PySem.W PyProof.Rows in
set_option maxRecDepth 100000 in
set_option maxHeartbeats 0 in
theorem PySem.Challenge.cw_keptbase_k65_orders_counted_holds : PySem.Challenge.rw_keptbase_k65_orders_counted.Holds := by
  w_on; o_law; k_head; (case hw => w_witness2)
  k_fill
  refine K65.walk (l := PySem.Challenge.rw_keptbase_k65_orders_counted) rfl rfl (fun w h Y => PySem.W.kIn_of Y) ?F
  case F =>
    intro w mg fa h KX G hmg
    refine' K65.all_mk KX G hmg ?afr ?lfr ?cfr ?kfr ?aco ?lco ?cco ?kco ?afi ?lfi ?cfi ?kfi ?ane ?lne ?cne ?kne ?aog ?log ?cog ?kog ?act ?lct ?cct ?kct ?apo ?lpo ?cpo ?kpo ?adr ?ldr ?cdr ?kdr ?ali ?lli ?cli ?kli ?aar ?lar ?car ?kar ?awy ?lwy ?cwy ?kwy ?alf ?llf ?clf ?klf ?alo ?llo ?clo ?klo ?ato ?lto ?cto ?kto ?ala ?lla ?cla ?kla ?afo ?ifo ?lfo ?cfo ?kfo ?ast ?ist ?lst ?cst ?kst ?aen ?ien ?len ?cen ?ken ?apa ?ipa ?lpa ?cpa ?kpa ?ari ?iri ?lri ?cri ?kri ?agi ?igi ?lgi ?cgi ?kgi ?lTD ?lT0 ?aC ?pg ?hd ?po ?sa ?mk ?kc ?nS ?nA ?zint ?zlist ?ztuple ?zset ?zbool ?zrange ?zlen ?zabs ?zsum ?zsorted ?zmin ?zany ?zisinstance
    (case aC => k_is)
    (case afr => k_is)
    (case lfr => k_is)
    (case cfr => k_is)
    (case kfr => k_is)
    (case aco => k_is)
    (case lco => k_is)
    (case cco => k_is)
    (case kco => k_is)
    (case afi => k_is)
    (case lfi => k_is)
    (case cfi => k_is)
    (case kfi => k_is)
    (case ane => k_is)
    (case lne => k_is)
    (case cne => k_is)
    (case kne => k_is)
    (case aog => k_is)
    (case log => k_is)
    (case cog => k_is)
    (case kog => k_is)
    (case act => k_is)
    (case lct => k_is)
    (case cct => k_is)
    (case kct => k_is)
    (case apo => k_is)
    (case lpo => k_is)
    (case cpo => k_is)
    (case kpo => k_is)
    (case adr => k_is)
    (case ldr => k_is)
    (case cdr => k_is)
    (case kdr => k_is)
    (case ali => k_is)
    (case lli => k_is)
    (case cli => k_is)
    (case kli => k_is)
    (case aar => k_is)
    (case lar => k_is)
    (case car => k_is)
    (case kar => k_is)
    (case awy => k_is)
    (case lwy => k_is)
    (case cwy => k_is)
    (case kwy => k_is)
    (case alf => k_is)
    (case llf => k_is)
    (case clf => k_is)
    (case klf => k_is)
    (case alo => k_is)
    (case llo => k_is)
    (case clo => k_is)
    (case klo => k_is)
    (case ato => k_is)
    (case lto => k_is)
    (case cto => k_is)
    (case kto => k_is)
    (case ala => k_is)
    (case lla => k_is)
    (case cla => k_is)
    (case kla => k_is)
    (case afo => k_is)
    (case ifo => k_is)
    (case lfo => k_is)
    (case cfo => k_is)
    (case kfo => k_is)
    (case ast => k_is)
    (case ist => k_is)
    (case lst => k_is)
    (case cst => k_is)
    (case kst => k_is)
    (case aen => k_is)
    (case ien => k_is)
    (case len => k_is)
    (case cen => k_is)
    (case ken => k_is)
    (case apa => k_is)
    (case ipa => k_is)
    (case lpa => k_is)
    (case cpa => k_is)
    (case kpa => k_is)
    (case ari => k_is)
    (case iri => k_is)
    (case lri => k_is)
    (case cri => k_is)
    (case kri => k_is)
    (case agi => k_is)
    (case igi => k_is)
    (case lgi => k_is)
    (case cgi => k_is)
    (case kgi => k_is)
    (case lTD => k_is)
    (case lT0 => k_is)
    (case pg => k_is)
    (case hd => k_is)
    (case po => k_is)
    (case sa => k_is)
    (case mk => k_is)
    (case kc => k_is)
    (case nS => k_is)
    (case nA => k_is)
    (case zint => k_is)
    (case zlist => k_is)
    (case ztuple => k_is)
    (case zset => k_is)
    (case zbool => k_is)
    (case zrange => k_is)
    (case zlen => k_is)
    (case zabs => k_is)
    (case zsum => k_is)
    (case zsorted => k_is)
    (case zmin => k_is)
    (case zany => k_is)
    (case zisinstance => k_is)
