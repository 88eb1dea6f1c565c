import PyProof.Rows.All
import Wide.All
import OpenK.AllK
import Wide.FinOn
import HandS.ForMost
import HandS.SortKw
import HandS.Strs
import HandS.Conv
import HandS.Wide
import HandS.RaiseMore
import HandS.Defaults
import HandS.Walk
import HandS.SortInts
import PySem.Challenge.RW_sourceback_k66_moves_of_lists
set_option Elab.async false
set_option linter.all false
/-! k66: the mathematics: longest rising rows by a table and by all lots -/
namespace M66

/-- the greatest of a list of numbers and 0 -/
def mx : List Int → Int
  | [] => 0
  | x :: r => max x (mx r)
theorem mx_nn : ∀ l, 0 ≤ mx l
  | [] => by decide
  | x :: r => by
    have := mx_nn r
    show 0 ≤ max x (mx r)
    omega
theorem le_mx : ∀ {l : List Int} {y : Int}, y ∈ l → y ≤ mx l
  | x :: r, y, h => by
    show y ≤ max x (mx r)
    rcases List.mem_cons.mp h with rfl | h
    · omega
    · have := le_mx h
      omega
theorem mx_le : ∀ {l : List Int} {c : Int}, 0 ≤ c → (∀ y ∈ l, y ≤ c) → mx l ≤ c
  | [], _, h, _ => h
  | x :: r, c, h, a => by
    have h1 := a x (List.mem_cons_self ..)
    have h2 := mx_le h fun y hy => a y (List.mem_cons_of_mem _ hy)
    show max x (mx r) ≤ c
    omega
theorem mx_mem : ∀ {l : List Int}, mx l = 0 ∨ mx l ∈ l
  | [] => .inl rfl
  | x :: r => by
    show max x (mx r) = 0 ∨ max x (mx r) ∈ x :: r
    by_cases h : mx r ≤ x
    · right
      rw [show max x (mx r) = x by omega]
      exact List.mem_cons_self ..
    · rw [show max x (mx r) = mx r by omega]
      rcases mx_mem (l := r) with e | e
      · exact .inl e
      · exact .inr (List.mem_cons_of_mem _ e)
/-- what max([0] + l) gives -/
theorem mx_of0 {l : List Int} {m : Int} (h : m ∈ (0 : Int) :: l) (a : ∀ y ∈ (0 : Int) :: l, y ≤ m) : m = mx l := by
  have h0 := a 0 (List.mem_cons_self ..)
  have h1 := mx_le h0 fun y hy => a y (List.mem_cons_of_mem _ hy)
  rcases List.mem_cons.mp h with rfl | h
  · have := mx_nn l
    omega
  · have := le_mx h
    omega
/-- what max(l, default=0) gives -/
theorem mx_of {l : List Int} {m : Int} (hp : ∀ y ∈ l, 0 ≤ y) (h : m ∈ l) (a : ∀ y ∈ l, y ≤ m) : m = mx l := by
  have h0 := hp m h
  have h1 := mx_le h0 a
  have h2 := le_mx h
  omega

/-! ### the table -/
/-- what stands in the table for a place, behind the pairs acc -/
def ahead (acc : List (Int × Int)) (p : Int) : List Int := (acc.filter fun q => decide (q.1 < p)).map (·.2)
def nextB (acc : List (Int × Int)) (p : Int) : Int := 1 + mx (ahead acc p)
def tab : List (Int × Int) → List Int → List (Int × Int)
  | acc, [] => acc
  | acc, p :: r => tab (acc ++ [(p, nextB acc p)]) r
def lis (ps : List Int) : Int := mx ((tab [] ps).map (·.2))

theorem tab_append : ∀ (a b : List Int) (acc : List (Int × Int)), tab acc (a ++ b) = tab (tab acc a) b
  | [], _, _ => rfl
  | p :: r, b, acc => tab_append r b _
theorem tab_snoc (a : List Int) (p : Int) : tab [] (a ++ [p]) = tab [] a ++ [(p, nextB (tab [] a) p)] := by
  rw [tab_append]
  rfl
theorem tab_fst : ∀ (a : List Int) (acc : List (Int × Int)), (tab acc a).map (·.1) = acc.map (·.1) ++ a
  | [], acc => by simp [tab]
  | p :: r, acc => by
    rw [tab, tab_fst r]
    simp
theorem tab_len (a : List Int) : (tab [] a).length = a.length := by
  have := congrArg List.length (tab_fst a [])
  simpa using this
/-- the table's values of the first places -/
def bst (a : List Int) : List Int := (tab [] a).map (·.2)
theorem bst_len (a : List Int) : (bst a).length = a.length := by
  unfold bst
  rw [List.length_map, tab_len]
theorem bst_snoc (a : List Int) (p : Int) : bst (a ++ [p]) = bst a ++ [nextB (tab [] a) p] := by
  unfold bst
  rw [tab_snoc]
  simp
theorem tab_pos : ∀ (a : List Int) (acc : List (Int × Int)), (∀ q ∈ acc, 1 ≤ q.2) → ∀ q ∈ tab acc a, 1 ≤ q.2
  | [], _, h => h
  | p :: r, acc, h => tab_pos r _ fun q hq => by
    rcases List.mem_append.mp hq with hq | hq
    · exact h q hq
    · have e : q = (p, nextB acc p) := by simpa using hq
      subst e
      have := mx_nn (ahead acc p)
      show 1 ≤ 1 + mx (ahead acc p)
      omega
theorem bst_pos (a : List Int) : ∀ y ∈ bst a, 1 ≤ y := fun y hy => by
  obtain ⟨q, hq, rfl⟩ := List.mem_map.mp hy
  exact tab_pos a [] (fun _ h => nomatch h) q hq
theorem bst_get (a : List Int) (i : Nat) (h : i < a.length) : ∀ b : List Int, (bst (a ++ b))[i]? = (bst a)[i]? := fun b => by
  obtain ⟨n, hn⟩ : ∃ n, b.length = n := ⟨_, rfl⟩
  induction n generalizing b with
  | zero =>
    rw [List.length_eq_zero_iff.mp hn, List.append_nil]
  | succ n ih =>
    have hb : b ≠ [] := fun e => by rw [e] at hn; cases hn
    rw [← List.dropLast_concat_getLast hb, ← List.append_assoc, bst_snoc, List.getElem?_append_left (by rw [bst_len, List.length_append]; omega)]
    exact ih _ (by rw [List.length_dropLast, hn]; rfl)
theorem zip_maps : ∀ l : List (Int × Int), l = (l.map (·.1)).zip (l.map (·.2))
  | [] => rfl
  | (a, b) :: r => by
    show (a, b) :: r = (a, b) :: (r.map (·.1)).zip (r.map (·.2))
    rw [← zip_maps r]
theorem tab_zip (a : List Int) : tab [] a = a.zip (bst a) := by
  have e := tab_fst a []
  simp only [List.map_nil, List.nil_append] at e
  have z := zip_maps (tab [] a)
  rw [e] at z
  exact z

/-! ### 0, 1, .. -/
theorem bst_range : ∀ n : Nat, tab [] ((List.range n).map fun i : Nat => (i : Int)) = (List.range n).map fun i : Nat => ((i : Int), (i : Int) + 1)
  | 0 => rfl
  | n + 1 => by
    rw [List.range_succ, List.map_append, List.map_append]
    show tab [] (_ ++ [((n : Nat) : Int)]) = _ ++ [((n : Int), (n : Int) + 1)]
    rw [tab_snoc, bst_range n]
    congr 2
    have e : mx (ahead ((List.range n).map fun i : Nat => ((i : Int), (i : Int) + 1)) n) = n := by
      have h1 : mx (ahead ((List.range n).map fun i : Nat => ((i : Int), (i : Int) + 1)) n) ≤ n := mx_le (by omega) fun y hy => by
        unfold ahead at hy
        obtain ⟨q, hq, rfl⟩ := List.mem_map.mp hy
        obtain ⟨i, hi, rfl⟩ := List.mem_map.mp (List.mem_filter.mp hq).1
        have := List.mem_range.mp hi
        show (i : Int) + 1 ≤ n
        omega
      cases n with
      | zero => rfl
      | succ m =>
        have h2 : ((m : Int) + 1) ∈ ahead ((List.range (m + 1)).map fun i : Nat => ((i : Int), (i : Int) + 1)) ((m + 1 : Nat) : Int) := by
          unfold ahead
          refine List.mem_map.mpr ⟨((m : Int), (m : Int) + 1), List.mem_filter.mpr ⟨List.mem_map.mpr ⟨m, List.mem_range.mpr (by omega), rfl⟩, decide_eq_true ?_⟩, rfl⟩
          show (m : Int) < ((m + 1 : Nat) : Int)
          omega
        have := le_mx h2
        omega
    show ((n : Int), 1 + mx _) = _
    rw [e, Int.add_comm]
theorem lis_range (n : Nat) : lis ((List.range n).map fun i : Nat => (i : Int)) = n := by
  unfold lis
  rw [bst_range, List.map_map]
  have h1 : mx ((List.range n).map ((fun q : Int × Int => q.2) ∘ fun i : Nat => ((i : Int), (i : Int) + 1))) ≤ n := mx_le (by omega) fun y hy => by
    obtain ⟨i, hi, rfl⟩ := List.mem_map.mp hy
    have := List.mem_range.mp hi
    show (i : Int) + 1 ≤ n
    omega
  cases n with
  | zero => rfl
  | succ m =>
    have h2 : ((m : Int) + 1) ∈ (List.range (m + 1)).map ((fun q : Int × Int => q.2) ∘ fun i : Nat => ((i : Int), (i : Int) + 1)) := List.mem_map.mpr ⟨m, List.mem_range.mpr (by omega), rfl⟩
    have := le_mx h2
    omega

/-! ### rising rows -/
/-- a rising row within ps that ends with p -/
def Ris (l : List Int) : Prop := l.Pairwise (· < ·)
theorem tab_ge : ∀ (a : List Int) (l : List Int) (p : Int), (l ++ [p]).Sublist a → Ris (l ++ [p]) → ∃ b, (p, b) ∈ tab [] a ∧ (l.length : Int) + 1 ≤ b := fun a => by
  obtain ⟨n, hn⟩ : ∃ n, a.length = n := ⟨_, rfl⟩
  induction n generalizing a with
  | zero =>
    intro l p h _
    rw [List.length_eq_zero_iff.mp hn] at h
    have := h.length_le
    simp at this
  | succ n ih =>
    intro l p h r
    have hb : a ≠ [] := fun e => by rw [e] at hn; cases hn
    obtain ⟨a', z, rfl⟩ : ∃ a' z, a = a' ++ [z] := ⟨_, _, (List.dropLast_concat_getLast hb).symm⟩
    have hn' : a'.length = n := by simpa using hn
    rw [tab_snoc]
    rcases List.sublist_append_iff.mp h with ⟨l1, l2, e, s1, s2⟩
    rcases List.sublist_cons_iff.mp s2 with s3 | ⟨r', e2, s3⟩
    · have e3 : l2 = [] := List.sublist_nil.mp s3
      subst e3
      rw [List.append_nil] at e
      obtain ⟨b, h1, h2⟩ := ih a' hn' l p (e ▸ s1) r
      exact ⟨b, List.mem_append_left _ h1, h2⟩
    · have e3 : r' = [] := List.sublist_nil.mp s3
      subst e3
      subst e2
      obtain ⟨e4, e5⟩ := List.append_inj_left' e rfl, List.append_inj_right' e rfl
      have e6 : p = z := by simpa using e5
      subst e6
      subst e4
      refine ⟨_, List.mem_append_right _ (List.mem_singleton.mpr rfl), ?_⟩
      show (l.length : Int) + 1 ≤ 1 + mx (ahead (tab [] a') p)
      cases hl : l.length with
      | zero =>
        have := mx_nn (ahead (tab [] a') p)
        omega
      | succ m =>
        have hne : l ≠ [] := fun e => by rw [e] at hl; cases hl
        obtain ⟨l', q, rfl⟩ : ∃ l' q, l = l' ++ [q] := ⟨_, _, (List.dropLast_concat_getLast hne).symm⟩
        have rr := List.pairwise_append.mp r
        obtain ⟨b, h1, h2⟩ := ih a' hn' l' q s1 rr.1
        have hq : q < p := rr.2.2 q (by simp) p (by simp)
        have : b ∈ ahead (tab [] a') p := List.mem_map.mpr ⟨(q, b), List.mem_filter.mpr ⟨h1, decide_eq_true hq⟩, rfl⟩
        have := le_mx this
        have e7 : l'.length = m := by simpa using hl
        omega
theorem tab_le : ∀ (a : List Int) (p b : Int), (p, b) ∈ tab [] a → ∃ l, (l ++ [p]).Sublist a ∧ Ris (l ++ [p]) ∧ b = (l.length : Int) + 1 := fun a => by
  obtain ⟨n, hn⟩ : ∃ n, a.length = n := ⟨_, rfl⟩
  induction n generalizing a with
  | zero =>
    intro p b h
    rw [List.length_eq_zero_iff.mp hn] at h
    cases h
  | succ n ih =>
    intro p b h
    have hb : a ≠ [] := fun e => by rw [e] at hn; cases hn
    obtain ⟨a', z, rfl⟩ : ∃ a' z, a = a' ++ [z] := ⟨_, _, (List.dropLast_concat_getLast hb).symm⟩
    have hn' : a'.length = n := by simpa using hn
    rw [tab_snoc] at h
    rcases List.mem_append.mp h with h | h
    · obtain ⟨l, h1, h2, h3⟩ := ih a' hn' p b h
      exact ⟨l, h1.trans (List.sublist_append_left _ _), h2, h3⟩
    · have e : (p, b) = (z, nextB (tab [] a') z) := by simpa using h
      cases e
      rcases mx_mem (l := ahead (tab [] a') p) with e | e
      · refine ⟨[], List.sublist_append_right _ _, List.pairwise_singleton .., ?_⟩
        show 1 + mx _ = (0 : Int) + 1
        rw [e]
        rfl
      · obtain ⟨⟨q, c⟩, h1, h2⟩ := List.mem_map.mp e
        have h2 : c = mx (ahead (tab [] a') p) := h2
        obtain ⟨h3, h4⟩ := List.mem_filter.mp h1
        have h4 : q < p := of_decide_eq_true h4
        obtain ⟨l, k1, k2, k3⟩ := ih a' hn' q c h3
        refine ⟨l ++ [q], List.Sublist.append k1 (List.Sublist.refl _), ?_, ?_⟩
        · refine List.pairwise_append.mpr ⟨k2, List.pairwise_singleton .., fun x hx y hy => ?_⟩
          have ey : y = p := by simpa using hy
          subst ey
          rcases List.mem_append.mp hx with hx | hx
          · have := (List.pairwise_append.mp k2).2.2 x hx q (by simp)
            omega
          · have ex : x = q := by simpa using hx
            omega
        · show 1 + mx (ahead (tab [] a') p) = _
          rw [← h2, k3, List.length_append]
          show 1 + ((l.length : Int) + 1) = ((l.length + 1 : Nat) : Int) + 1
          omega
theorem lis_ge {a l : List Int} (h : l.Sublist a) (r : Ris l) : (l.length : Int) ≤ lis a := by
  cases hl : l.length with
  | zero => exact mx_nn _
  | succ m =>
    have hne : l ≠ [] := fun e => by rw [e] at hl; cases hl
    obtain ⟨l', q, rfl⟩ : ∃ l' q, l = l' ++ [q] := ⟨_, _, (List.dropLast_concat_getLast hne).symm⟩
    obtain ⟨b, h1, h2⟩ := tab_ge a l' q h r
    have := le_mx (List.mem_map.mpr ⟨(q, b), h1, rfl⟩ : b ∈ (tab [] a).map (·.2))
    have e7 : l'.length = m := by simpa using hl
    unfold lis
    omega
theorem lis_le (a : List Int) : ∃ l, l.Sublist a ∧ Ris l ∧ lis a = (l.length : Int) := by
  unfold lis
  rcases mx_mem (l := (tab [] a).map (·.2)) with e | e
  · exact ⟨[], List.nil_sublist _, List.Pairwise.nil, e⟩
  · obtain ⟨⟨q, c⟩, h1, h2⟩ := List.mem_map.mp e
    obtain ⟨l, k1, k2, k3⟩ := tab_le a q c h1
    refine ⟨l ++ [q], k1, k2, ?_⟩
    rw [← h2]
    show c = _
    rw [k3, List.length_append]
    rfl

/-! ### lots -/
def pick : Nat → List Int → List Int
  | _, [] => []
  | n, p :: r => if n % 2 = 1 then p :: pick (n / 2) r else pick (n / 2) r
theorem pick_sub : ∀ (n : Nat) (l : List Int), (pick n l).Sublist l
  | _, [] => List.Sublist.refl _
  | n, p :: r => by
    unfold pick
    split
    · exact (pick_sub _ r).cons_cons p
    · exact (pick_sub _ r).cons p
theorem pick_has : ∀ {l s : List Int}, s.Sublist l → ∃ n, n < 2 ^ l.length ∧ pick n l = s := fun h => by
  induction h with
  | slnil => exact ⟨0, by decide, rfl⟩
  | cons p h ih =>
    obtain ⟨n, h1, h2⟩ := ih
    refine ⟨2 * n, by rw [List.length_cons, Nat.pow_succ]; omega, ?_⟩
    unfold pick
    rw [if_neg (by omega), show 2 * n / 2 = n by omega]
    exact h2
  | cons_cons p h ih =>
    obtain ⟨n, h1, h2⟩ := ih
    refine ⟨2 * n + 1, by rw [List.length_cons, Nat.pow_succ]; omega, ?_⟩
    unfold pick
    rw [if_pos (by omega), show (2 * n + 1) / 2 = n by omega, h2]
/-- the best of the first lots -/
def mostOf (ps : List Int) : Nat → Int
  | 0 => 0
  | n + 1 => if (pick n ps).Pairwise (· ≤ ·) then max (mostOf ps n) (pick n ps).length else mostOf ps n
theorem mostOf_ge (ps : List Int) : ∀ {n j : Nat}, j < n → (pick j ps).Pairwise (· ≤ ·) → ((pick j ps).length : Int) ≤ mostOf ps n
  | n + 1, j, h, r => by
    unfold mostOf
    by_cases e : j = n
    · subst e
      rw [if_pos r]
      omega
    · have := mostOf_ge ps (n := n) (j := j) (by omega) r
      split <;> omega
theorem mostOf_le (ps : List Int) {c : Int} (h0 : 0 ≤ c) (h : ∀ j, (pick j ps).Pairwise (· ≤ ·) → ((pick j ps).length : Int) ≤ c) : ∀ n, mostOf ps n ≤ c
  | 0 => h0
  | n + 1 => by
    have := mostOf_le ps h0 h n
    unfold mostOf
    split
    · have := h n (by assumption)
      omega
    · exact this
theorem mostOf_nn (ps : List Int) : ∀ n, 0 ≤ mostOf ps n
  | 0 => Int.le_refl _
  | n + 1 => by
    have := mostOf_nn ps n
    unfold mostOf
    split <;> omega
theorem most_lis {ps : List Int} (nd : ps.Nodup) : mostOf ps (2 ^ ps.length) = lis ps := by
  have h1 : mostOf ps (2 ^ ps.length) ≤ lis ps := mostOf_le ps (mx_nn _) (fun j r => by
    refine lis_ge (pick_sub j ps) ?_
    have n2 : (pick j ps).Nodup := nd.sublist (pick_sub j ps)
    have := List.Pairwise.and r n2
    exact this.imp fun {a b} ⟨x, y⟩ => by
      have : a ≠ b := y
      omega) _
  obtain ⟨l, k1, k2, k3⟩ := lis_le ps
  obtain ⟨n, e1, e2⟩ := pick_has k1
  have h2 := mostOf_ge ps e1 (by rw [e2]; exact k2.imp fun {a b} (h : a < b) => by omega)
  rw [e2] at h2
  omega

/-! ### places -/
def ixs (old new : List Int) : List Int := (new.filter fun x => decide (x ∈ old)).map fun x => (old.idxOf x : Int)
theorem ixs_self {l : List Int} (nd : l.Nodup) : ixs l l = (List.range l.length).map fun i : Nat => (i : Int) := by
  unfold ixs
  have e : (l.filter fun x => decide (x ∈ l)) = l := List.filter_eq_self.mpr fun x hx => decide_eq_true hx
  rw [e]
  refine List.ext_getElem (by simp) fun i h1 h2 => ?_
  have h3 : i < l.length := by simpa using h1
  simp [List.Nodup.idxOf_getElem nd i h3]
theorem ixs_nodup {old new : List Int} (nd : new.Nodup) : (ixs old new).Nodup := by
  unfold ixs
  refine List.pairwise_map.mpr ((nd.filter _).imp_of_mem ?_)
  intro a b ha hb h e
  have ha := of_decide_eq_true (List.mem_filter.mp ha).2
  have hb := of_decide_eq_true (List.mem_filter.mp hb).2
  apply h
  have e' : old.idxOf a = old.idxOf b := by omega
  have h1 := List.getElem_idxOf (List.idxOf_lt_length_iff.mpr ha)
  have h2 := List.getElem_idxOf (List.idxOf_lt_length_iff.mpr hb)
  rw [← h1, ← h2]
  simp [e']
def mv (old new : List Int) : Int := ((ixs old new).length : Int) - lis (ixs old new)
theorem mv_self {l : List Int} (nd : l.Nodup) : mv l l = 0 := by
  unfold mv
  rw [ixs_self nd, lis_range]
  simp
end M66

set_option Elab.async false
set_option linter.all false
set_option maxRecDepth 100000
/-! k66: rules that the layer lacks: max(xs, default=d), tuple.index of flat things, a power of a great number -/
namespace R66
open PySem PySem.Spec PyProof.Rows L2

section
variable {prog : Program} {w : World} {A : Around} {R : Result → Shared → Prop} {I S : Addr} {fp wr : List Addr} {n : Nat} {P : Nat → Value → Prop} {St : Nat → Heap → Prop} {bt : Nat → Nat → Bool} {kw : List (Str × Value)}

/-- the list that holds the best item so far -/
abbrev keptAt (h : Heap) (S : Addr) (vs : Array Value) : Prop := ∃ c, h.get? S = some { cls := .type "list", dict := none, data := .seq vs c, slots := #[] }

/-- max.loop with keywords, an item being held: d turns are left -/
theorem loop_kw (W : Walks prog w A.in1 I fp wr n P St) (cmp : CmpOf prog w A.in1 .Gt P bt) (out : S ∉ fp) :
    ∀ (d j : Nat), j + 1 + d = n → ∀ (s : Shared) (v0 : Value), St (j + 1) s.heap → P (argBest bt j) v0 → keptAt s.heap S #[v0, v0] →
      (∀ v h' tk, P (argBest bt (n - 1)) v → (∀ b o, b ∉ wr → b ≠ S → s.heap.get? b = some o → h'.get? b = some o) → R (.ok (.ret v)) { s with heap := h', toks := tk }) →
      codeAny (model prog w) A (.builtin "max.loop" ⟨[.ref I, .none, .ref S], kw⟩) R s := by
  have outW : S ∉ wr := fun z => out (W.sub _ z)
  have nm : (toString "max" ++ toString ".loop" : String) = "max.loop" := by decide
  intro d
  induction d with
  | zero =>
    intro j ej s v0 st p0 ⟨c, hS⟩ fin
    refine codeAny_builtin F.entry_max_loop ?_ <;> rw [Around.under_plainId F.plain_max_loop _]
    show wpAny (model prog w) A.in1 (seqItems? (.ref S) >>= _) _ _ s
    refine wpAny_bind (wpAny_seqItems hS rfl (wpAny_bind (wpAny_tryCatch (W.done s _ _ (show St n s.heap from ej ▸ st) fun h1 t1 keep => ?_))))
    have hS1 := keep S _ outW hS
    refine wpAny_bind (wpAny_updateSeq hS1 rfl (wpAny_bind (wpAny_letGo (wpAny_pure (fin v0 _ t1 ?_ fun b o nb ns e => ?_)))))
    · have e1 : n - 1 = j := by omega
      rw [e1]
      exact p0
    · exact (Heap.get?_update_other _ _ (Ne.symm ns)).trans (keep b o nb e)
  | succ d ih =>
    intro j ej s v0 st p0 ⟨c, hS⟩ fin
    refine codeAny_builtin F.entry_max_loop ?_ <;> rw [Around.under_plainId F.plain_max_loop _]
    show wpAny (model prog w) A.in1 (seqItems? (.ref S) >>= _) _ _ s
    refine wpAny_bind (wpAny_seqItems hS rfl (wpAny_bind (wpAny_tryCatch (W.item (j + 1) s _ _ (by omega) st fun v h1 t1 pv st1 keep => ?_))))
    have hS1 := keep S _ outW hS
    refine wpAny_bind (wpAny_pure (wpAny_bind (wpAny_tryCatch (wpAny_holding (wpAny_bind (cmp (j + 1) (argBest bt j) v v0 _ _ _ pv p0 ?_))))))
    refine wpAny_bind (wpAny_holding (wpAny_truthy_bool (wpAny_bind (wpAny_letGo (wpAny_pure ?_)))))
    cases hb : bt (j + 1) (argBest bt j) with
    | true =>
      have p1 : P (argBest bt (j + 1)) v := by
        simp only [argBest, hb, if_true]
        exact pv
      simp only [if_true]
      refine wpAny_bind (wpAny_updateSeq hS1 rfl (wpAny_bind (wpAny_letGo ?_)))
      rw [nm]
      refine wpAny_pure ⟨plainId_quiet F.plain_max_loop _, ih (j + 1) (by omega) _ v (W.frame _ _ _ st1 fun b hb o e => ?_) p1 ⟨_, Heap.get?_update_self _ hS1 rfl⟩ fun v' h2 t2 pv' keep2 => ?_⟩
      · exact (Heap.get?_update_other _ _ (fun z : S = b => out (by rw [z]; exact hb))).trans e
      · exact fin v' h2 t2 pv' fun b o nb ns e => keep2 b o nb ns ((Heap.get?_update_other _ _ (Ne.symm ns)).trans (keep b o nb e))
    | false =>
      have p1 : P (argBest bt (j + 1)) v0 := by
        simp only [argBest, hb, Bool.false_eq_true, if_false]
        exact p0
      simp only [Bool.false_eq_true, if_false]
      refine wpAny_bind (wpAny_letGo ?_)
      rw [nm]
      refine wpAny_pure ⟨plainId_quiet F.plain_max_loop _, ih (j + 1) (by omega) _ v0 st1 p1 ⟨_, hS1⟩ fun v' h2 t2 pv' keep2 => ?_⟩
      exact fin v' h2 t2 pv' fun b o nb ns e => keep2 b o nb ns (keep b o nb e)

/-- max.loop with keywords, before the first item -/
theorem loop_kw0 (W : Walks prog w A.in1 I fp wr n P St) (cmp : CmpOf prog w A.in1 .Gt P bt) (out : S ∉ fp) (pos : 0 < n) {s : Shared} (st : St 0 s.heap) (kS : keptAt s.heap S #[])
    (fin : ∀ v h' tk, P (argBest bt (n - 1)) v → (∀ b o, b ∉ wr → b ≠ S → s.heap.get? b = some o → h'.get? b = some o) → R (.ok (.ret v)) { s with heap := h', toks := tk }) :
    codeAny (model prog w) A (.builtin "max.loop" ⟨[.ref I, .none, .ref S], kw⟩) R s := by
  have outW : S ∉ wr := fun z => out (W.sub _ z)
  have nm : (toString "max" ++ toString ".loop" : String) = "max.loop" := by decide
  obtain ⟨c, hS⟩ := kS
  refine codeAny_builtin F.entry_max_loop ?_ <;> rw [Around.under_plainId F.plain_max_loop _]
  show wpAny (model prog w) A.in1 (seqItems? (.ref S) >>= _) _ _ s
  refine wpAny_bind (wpAny_seqItems hS rfl (wpAny_bind (wpAny_tryCatch (W.item 0 s _ _ pos st fun v h1 t1 pv st1 keep => ?_))))
  have hS1 := keep S _ outW hS
  refine wpAny_bind (wpAny_pure (wpAny_bind (wpAny_updateSeq hS1 rfl ?_)))
  rw [nm]
  refine wpAny_pure ⟨plainId_quiet F.plain_max_loop _, loop_kw W cmp out (n - 1) 0 (by omega) _ v (W.frame _ _ _ st1 fun b hb o e => ?_) pv ⟨_, Heap.get?_update_self _ hS1 rfl⟩ fun v' h2 t2 pv' keep2 => ?_⟩
  · exact (Heap.get?_update_other _ _ (fun z : S = b => out (by rw [z]; exact hb))).trans e
  · exact fin v' h2 t2 pv' fun b o nb ns e => keep2 b o nb ns ((Heap.get?_update_other _ _ (Ne.symm ns)).trans (keep b o nb e))
/-- max.loop of nothing gives the default -/
theorem loop_none (W : Walks prog w A.in1 I fp wr 0 P St) (out : S ∉ fp) {s : Shared} (st : St 0 s.heap) (kS : keptAt s.heap S #[]) {d : Value}
    (fin : ∀ h' tk, (∀ b o, b ∉ wr → b ≠ S → s.heap.get? b = some o → h'.get? b = some o) → R (.ok (.ret d)) { s with heap := h', toks := tk }) :
    codeAny (model prog w) A (.builtin "max.loop" ⟨[.ref I, .none, .ref S], [("default", d)]⟩) R s := by
  have outW : S ∉ wr := fun z => out (W.sub _ z)
  obtain ⟨c, hS⟩ := kS
  refine codeAny_builtin F.entry_max_loop ?_ <;> rw [Around.under_plainId F.plain_max_loop _]
  show wpAny (model prog w) A.in1 (seqItems? (.ref S) >>= _) _ _ s
  refine wpAny_bind (wpAny_seqItems hS rfl (wpAny_bind (wpAny_tryCatch (W.done s _ _ st fun h1 t1 keep => ?_))))
  show wpAny (model prog w) A.in1 (rule _ >>= _) _ _ _
  refine wpAny_bind (wpAny_rule (wpAny_pure (fin h1 t1 fun b o nb _ e => keep b o nb e)))
end
section
variable {prog : Program} {w : World} {A : Around} {E : Value → Shared → Prop} {s : Shared} {l : Addr} {xs : Array (Int × Tok)}
/-- what a call of a built-in wants of its end -/
def EndOf (prog : Program) (w : World) (A : Around) (Q : Value → Shared → Prop) (E : Value → Shared → Prop) (fin : PySem.Fin) (s' : Shared) : Prop :=
  match fin with
  | .done f => (match (Except.ok f : Result) with | .ok (.ret v) => Q v s' | .ok _ => False | .error e => E e s')
  | .again c => c.quiet = true ∧ codeAny (model prog w) A c (fun r s2 => match r with | .ok (.ret v) => Q v s2 | .ok _ => False | .error e => E e s2) s'
theorem call_tree_kw {id : String} {b : Builtin} {args : List Value} {kw : List (Str × Value)} {Q : Value → Shared → Prop} (hk : builtinKind id = none) (hp : plainId id = true) (hb : entryFor table id = some b) (ha : argsOk id ⟨args, kw⟩)
    (hc : wpAny (model prog w) A.in1 (b ⟨args, kw⟩) (EndOf prog w A Q E) E s) : wpAny (model prog w) A (call (.builtin id) args kw) Q E s := by
  refine wpAny_call (codeAny_call_builtin hp hb ?_)
  simp only [checkBuiltinCall, hk]
  cases sg : Manifest.signature? id with
  | none => exact wpAny_pure hc
  | some g =>
    have e : Bind.checkArgs id g ⟨args, kw⟩ = pure () := by simpa only [argsOk, sg] using ha
    show wpAny _ _ (Bind.checkArgs id g ⟨args, kw⟩) _ _ s
    rw [e]
    exact wpAny_pure hc
theorem args_max_def (a d : Value) : argsOk "max" ⟨[a], [("default", d)]⟩ := by unfold argsOk; kernel_rfl
/-- max(l, default=d) of a list of ints -/
theorem max_def {Q : Value → Shared → Prop} {d : Value} (hh : A.handled = none) (hl : s.heap.IsList l (intItems xs))
    (h0 : xs.size = 0 → ∀ h' tk, (∀ b o, s.heap.get? b = some o → h'.get? b = some o) → Q d { s with heap := h', toks := tk })
    (h : ∀ v h' tk, 0 < xs.size → (intItems xs)[argBest (fun i j => decide (numAt xs i > numAt xs j)) (xs.size - 1)]? = some v → (∀ b o, s.heap.get? b = some o → h'.get? b = some o) → Q v { s with heap := h', toks := tk }) :
    wpAny (model prog w) A (call (.builtin "max") [.ref l] [("default", d)]) Q E s := by
  have nm : (toString "max" ++ toString ".loop" : String) = "max.loop" := by decide
  refine call_tree_kw F.kind_max F.plain_max F.entry_max (args_max_def _ _) ?_
  show wpAny (model prog w) A.in1 (Builtin.Builtins.bindParams "max" ["key", "default"] 0 ⟨[], [("default", d)]⟩ >>= _) _ _ s
  refine wpAny_bind (wpAny_of_eq (show Builtin.Builtins.bindParams "max" ["key", "default"] 0 ⟨[], [("default", d)]⟩ = pure [none, some d] from rfl) ?_)
  refine wpAny_bind (wpAny_pure (wpAny_bind (iter_intList hl fun s₂ e st hfp hlI => ?_)))
  subst e
  have W := Walks.list (prog := prog) (w := w) (A := A.in1) hh _ l hlI (intItems xs)
  refine wpAny_bind (wpAny_newObj_type ?_)
  rw [nm]
  have sf : (s.heap.push { cls := .type "list_iterator", data := .fields #[.ref l, .int 0 0] }).objs.size ∉ [s.heap.objs.size, l] := fun z => Nat.lt_irrefl _ (hfp _ z)
  refine wpAny_pure ⟨plainId_quiet F.plain_max_loop _, ?_⟩
  have push2 : ∀ (b : Addr) (o : Obj), (s.heap.push { cls := .type "list_iterator", data := .fields #[.ref l, .int 0 0] }).get? b = some o →
      ((s.heap.push { cls := .type "list_iterator", data := .fields #[.ref l, .int 0 0] }).push (seqObj "list" #[] 0)).get? b = some o := fun b o e => Heap.get?_push_of_some _ e
  have sz : (intItems xs).size = xs.size := by simp [intItems]
  have old : ∀ {h' : Heap}, (∀ b o, b ∉ [s.heap.objs.size] → b ≠ (s.heap.push { cls := .type "list_iterator", data := .fields #[.ref l, .int 0 0] }).objs.size →
      ((s.heap.push { cls := .type "list_iterator", data := .fields #[.ref l, .int 0 0] }).push (seqObj "list" #[] 0)).get? b = some o → h'.get? b = some o) → ∀ b o, s.heap.get? b = some o → h'.get? b = some o := fun k => old_kept fun b o nb e => k b o nb (Nat.ne_of_lt (Heap.lt_size e)) (push2 b o e)
  by_cases hz : xs.size = 0
  · have ez : (intItems xs).size = 0 := by rw [sz, hz]
    rw [ez] at W
    exact loop_none W sf (W.frame _ _ _ st fun b _ o e => push2 b o e) ⟨_, Heap.get?_push_size _ rfl⟩ fun h' tk keep => h0 hz h' tk (old keep)
  · refine loop_kw0 W (CmpOf.ints_gt (numAt xs) fun _ _ => intItems_at) sf (by omega) (W.frame _ _ _ st fun b _ o e => push2 b o e) ⟨_, Heap.get?_push_size _ rfl⟩ fun v h' tk pv keep => ?_
    rw [sz] at pv
    exact h v h' tk (by omega) pv (old keep)
end
/-! ### the rules by values -/
section
variable {X : Cx}
/-- max(xs, default=d) of a list of ints -/
def rMaxDef (K : PySem.W.Frag) : List V → List V → Hp → VK → Prop := fun vs zs H Q => ∃ (a : Addr) (ns : List Int) (d : V), vs = [.ref a] ∧ zs = [d] ∧ SqL K H a (ns.map V.int) ∧
  (ns = [] → Q d H) ∧ ∀ m, m ∈ ns → (∀ y ∈ ns, y ≤ m) → Q (.int m) H
theorem cr_maxDef (hc : X.calm = true) : CallRK X (.builtin "max") [Str.ofString "default"] (rMaxDef X.K) := by
  intro pins s σ H vs zs us ws Q I r rz h
  obtain ⟨a, ns, d, rfl, rfl, hs, q0, q⟩ := h
  obtain rfl := Vals.ref1 r
  obtain ⟨w1, rfl, rd⟩ := vals1 rz
  obtain ⟨its, rv, hl, _⟩ := I.list hs
  obtain ⟨xs, e⟩ := rv.ints.allInts.items
  have hn : numsOf (intItems xs).toList = ns := by
    rw [← e]
    exact rv.ints.numsOf
  rw [nums_intItems] at hn
  subst hn
  have hl2 := hl.isList
  rw [e] at hl2
  refine max_def (I.ok.hd hc) hl2 (fun z h' tk hk => ⟨d, H, I.kept hk, rd, q0 ?_⟩) fun v h' tk pos hv hk => ?_
  · have : xs.toList = [] := by
      apply List.eq_nil_of_length_eq_zero
      simpa using z
    rw [this]
    rfl
  · obtain ⟨t, rfl⟩ := intItems_at hv
    obtain ⟨h1, h2⟩ := argBest_gt (numAt xs) (xs.size - 1)
    refine ⟨.int _, H, I.kept hk, ⟨_, rfl⟩, q _ ?_ fun y hy => ?_⟩
    · rw [numAt_eq]
      exact PySem.getD_mem (by rw [List.length_map, Array.length_toList]; omega)
    · obtain ⟨j, hj, rfl⟩ := mem_getD hy
      rw [List.length_map, Array.length_toList] at hj
      rw [← numAt_eq]
      exact h2 j (by omega)

theorem idx_ahead : ∀ (l : List Int) (n : Int) (m : Nat) (h : m < l.length), m < l.idxOf n → l[m] ≠ n
  | x :: r, n, m, h, k => by
    rw [List.idxOf_cons] at k
    by_cases e : (x == n) = true
    · rw [e] at k
      simp at k
    · have e' : (x == n) = false := by simpa using e
      rw [e'] at k
      cases m with
      | zero => exact fun z => e (by show (x == n) = true; exact beq_iff_eq.mpr z)
      | succ m =>
        have k' : m < r.idxOf n := by simpa using k
        exact idx_ahead r n m (by simpa using h) k'
/-- t.index(y), flat items, the first place -/
def rIndexT (K : PySem.W.Frag) : V → List V → Hp → VK → Prop := fun x xs H Q => ∃ (a : Addr) (ns : List Int) (n : Int), x = .ref a ∧ xs = [.int n] ∧ SqT K H a (ns.map V.int) ∧ n ∈ ns ∧ Q (.int (ns.idxOf n : Nat)) H
theorem mt_indexT : MtR X "tuple.index" (rIndexT X.K) := by
  intro pins s σ H x xs v us Q I rx rs h
  obtain ⟨p, ns, n, rfl, rfl, hq, hm, q⟩ := h
  cases rx
  obtain ⟨u, rfl, t, rfl⟩ := vals1 rs
  obtain ⟨its, r, pl, hz⟩ := I.tuple hq
  obtain ⟨⟨cls, dd, dt, sl⟩, ho, hc, c, hd⟩ := pl
  simp only at hc hd
  subst hc
  subst hd
  have len : its.length = ns.length := by rw [← r.length, List.length_map]
  have hj : ns.idxOf n < its.toArray.size := by
    rw [List.size_toArray, len]
    exact List.idxOf_lt_length_iff.mpr hm
  have item : ∀ (m : Nat) (h1 : m < its.toArray.size) (h2 : m < ns.length), ∃ t', its.toArray[m] = Value.int ns[m] t' := fun m h1 h2 => by
    obtain ⟨w', e1, t', e2⟩ := r.get (i := m) (x := .int ns[m]) (by simp [h2])
    refine ⟨t', ?_⟩
    have e3 := (List.getElem?_eq_some_iff.mp e1).2
    rw [← e2, ← e3]
    simp
  have hf : (ns.map V.int).all flatV = true := by
    rw [List.all_map]
    exact List.all_eq_true.mpr fun _ _ => rfl
  refine call_meets PySem.F.slot_tuple_index ⟨_, ho, rfl⟩ PySem.F.entry_tuple_index (PySem.F.args_tuple_index_2 _ _) (TI.tuple_indexAt p its.toArray c dd sl (.int n t) (eqU (.int n)) (ns.idxOf n) hj ?_ ?_)
    ⟨ho, fun y hy => mem_eqAt (x := .int n) ⟨t, rfl⟩ rfl r hf y (by simpa using hy), ⟨.int (ns.idxOf n : Nat), H, I.tok _, ⟨_, rfl⟩, q⟩⟩
  · obtain ⟨t', e⟩ := item _ hj (List.idxOf_lt_length_iff.mpr hm)
    rw [e]
    show eqU (.int n) (Value.int _ t') = true
    rw [List.getElem_idxOf]
    show (n == n) = true
    exact beq_self_eq_true n
  · intro m h1 h2
    have h3 : m < ns.length := by
      rw [← len, ← List.size_toArray]
      exact h1
    obtain ⟨t', e⟩ := item m h1 h3
    rw [e]
    have k := idx_ahead ns n m h3 h2
    show (ns[m] == n) = false
    exact beq_eq_false_iff_ne.mpr k
/-- f(k = v, ..): keywords alone -/
theorem pe_callK0 {CX : CXT} {k : Nat} {f : Addr} {fd : FuncData} {ps ks : List Str} {sp : Sp} {E : XK} {x : Str} {p pos : Pos} {kws : List Keyword} {tk : TA} {g : List Value → List Value → List Value} {gV : List V → List V → List V}
    (F : FnOk X.prog X.w X.K X.mg X.base CX k f fd ps sp) (hr : Room k X.A) (hg : Gl X x) (hm : X.mg x = some (.ref f)) (hk : PySem.W.keepIn X.K (.ref f) = true) (hb : KBinds X.K fd ps ks g gV) (hx : Passes CX X E) (hkw : PK X kws tk)
    (hall : (backToKw pos (keywordEach kws X.env)).all (·.1.isSome) = true := by rfl) (hks : (backToKw pos (keywordEach kws X.env)).filterMap (·.1) = ks := by rfl) (hdb : (x == ("__debug__" : Str)) = false := by decide)
    (hpl : ((backTo pos (starEach [] X.env)).any (·.1) || (backToKw pos (keywordEach kws X.env)).any (·.1.isNone)) = false := by rfl) : PE X (.Call (.Name x p) [] kws pos) (tCallK sp gV E tNil tk) := by
  refine ⟨fun pins s σ H Q I h => wpAny_Call_Name_kw (ld_glob I hg hm ?_ hdb)⟩
  refine PySem.W.callWith_KW0 (h₀ := X.base) I.ok.mod.kin hk hall (thn (hkw.run pos pins s σ H _ I h) fun ws s1 ⟨zs, H1, I1, rz, q1⟩ => ⟨I1.kIn, ?_⟩) hpl
  rw [hks]
  exact run_fnk F hr hb hx I1 .nil rz q1
/-- a method's call within a comprehension: the written part by its own name -/
theorem pe_bmK {K : PySem.W.Frag} {e : Expr} {T : String} {r : V → List V → Hp → VK → Prop} {to : TE} {t : TA} (hK : X.K = K) (h : PE X e (tBM X.K T r to t)) : PE X e (tBM K T r to t) := by
  subst hK
  exact h
/-! ### tuples without a dict, and their methods -/
/-- a tuple at a whose object is known to have no dict -/
def FzT (H : Hp) (a : Addr) (xs : List V) : Prop := ∃ o : Obj, H a = some (.frz o (.tup xs)) ∧ o.dict = none
theorem FzT.sq {K : PySem.W.Frag} {H : Hp} {a : Addr} {xs : List V} (h : FzT H a xs) : SqT K H a xs := by
  obtain ⟨o, h1, _⟩ := h
  exact .inl (.inr ⟨o, h1⟩)
/-- (a, b, ..), its object known -/
def tTupF (t : TA) : TE := fun σ H Q => t σ H fun xs H1 => xs.length ≤ sizeLine ∧ ∀ (p : Addr) (o : Obj), H1 p = none → o.dict = none → Q (.ref p) (upd H1 p (.frz o (.tup xs)))
theorem pe_tupF {es : List Expr} {t : TA} {k : Nat} {pos : Pos} (h : PA X es t) : PE X (.Tuple es k pos) (tTupF t) := by
  refine ⟨fun pins s σ H Q I hq => wpAny_Tuple_spliced (thn (h.run pos pins s σ H _ I hq) fun us s1 ⟨xs, H1, I1, r, z, q⟩ => ⟨by rw [← r.length]; exact z, ?_⟩)⟩
  refine ⟨.ref s1.heap.objs.size, _, I1.laid (t' := s1.toks) (fun b u e => Heap.get?_push_of_some _ e) (Nat.le_refl _) ?_, rfl, q _ { cls := .type "tuple", data := .seq us.toArray } (I1.hok.fresh (Nat.le_refl _)) rfl⟩
  exact ⟨Heap.get?_push_size _ rfl, z, us, r, _, Heap.get?_push_size _ rfl, rfl, _, rfl⟩
/-- tuple(l) of a list, its object known -/
theorem call_tupleF : CallR X (.type "tuple") (fun xs H Q => ∃ p ys, xs = [.ref p] ∧ SqL X.K H p ys ∧ ∀ (l : Addr) (o : Obj), H l = none → o.dict = none → Q (.ref l) (upd H l (.frz o (.tup ys)))) := by
  intro pins s σ H xs us Q I r h
  obtain ⟨p, ys, rfl, hq, q⟩ := h
  obtain ⟨u, rfl, rx⟩ := vals1 r
  cases rx
  obtain ⟨its, rv, pl, hz⟩ := I.list hq
  have len := rv.length
  refine call_tuple_list pl.isList (fun h1 kp => ?_) (by simp only [List.size_toArray] <;> omega)
  have I1 : Inv X pins σ H { s with heap := h1 } := I.kept (t' := s.toks) kp
  refine ⟨.ref h1.objs.size, _, I1.laid (o := .frz { cls := .type "tuple", data := .seq its.toArray } (.tup ys)) (t' := s.toks) (fun b o e => Heap.get?_push_of_some _ e) (Nat.le_refl _) ?_, rfl, q _ _ (I1.hok.fresh (Nat.le_refl _)) rfl⟩
  exact ⟨Heap.get?_push_size _ rfl, hz, its, rv, IsTup.new _ _⟩
/-- t.m(e, ..) of such a tuple -/
def tBMT (r : V → List V → Hp → VK → Prop) (to : TE) (t : TA) : TE := fun σ H Q => to σ H fun x H1 => (∃ a xs, x = .ref a ∧ FzT H1 a xs) ∧ t σ H1 fun vs H2 => r x vs H2 Q
theorem pe_bmT {r : V → List V → Hp → VK → Prop} {name : Str} {id : String} {o e : Expr} {es : List Expr} {to : TE} {t : TA} {apos cpos : Pos} (slot : Slot "tuple" name id) (hty : typeOf (.builtin id) = pure (.type "method_descriptor")) (hm : MtR X id r) (ho : PE X o to) (ha : PA X (e :: es) t)
    (hbase : attributeBase o name X.env (eval o X.env) = eval o X.env := by rfl)
    (hfew : ((backTo cpos (starEach (e :: es) X.env)).all (fun x => !x.1) && (backToKw cpos (keywordEach [] X.env)).all (fun x => x.1.isSome) && decide ((e :: es).length + ([] : List Keyword).length + (if ([] : List Keyword).isEmpty then 0 else 1) < 30)) = true := by rfl)
    (hline : (apos.endLine == cpos.line) = true := by rfl) (hs : starEach (e :: es) X.env = (false, eval e X.env) :: starEach es X.env := by rfl) (hplain : (backTo cpos (starEach es X.env)).any (·.1) = false := by rfl) :
    PE X (.Call (.Attribute o name apos) (e :: es) [] cpos) (tBMT r to t) := by
  refine ⟨fun pins s σ H Q I h => wpAny_Call_method_late hbase hfew hline rfl (thn (ho.run pins s σ H _ I h) fun v s1 ⟨x, H1, I1, r1, ⟨a, xs, ex, ob, e1, e2⟩, q1⟩ => ?_)⟩
  subst ex
  obtain rfl : v = Value.ref a := r1
  obtain ⟨g1, _, its, rv, ob', g2, g3, _⟩ := I1.hok a _ e1
  obtain rfl : ob = ob' := Option.some.inj (g1.symm.trans g2)
  have hA := ha.run cpos pins s1 σ H1 _ I1 q1
  refine ⟨"tuple", id, PySem.F.plainAttrs_tuple, slot, hty, ⟨ob, g1, g3⟩, fun b eb => ?_, ?_⟩
  · cases eb
    exact ⟨ob, g1, e2⟩
  · rw [hs] at hA ⊢
    refine Calls.callWith_builtin ?_ (Calls.evalArgs_plain (thn hA fun us s2 ⟨vs, H2, I2, r2, q2⟩ => hm pins s2 σ H2 (.ref a) vs _ us Q I2 rfl r2 q2))
    show (false || (backTo cpos (starEach es X.env)).any (·.1)) = false
    rw [hplain]
    rfl
/-- a power of a great number -/
def CPowW (i j : Int) : Prop := 0 ≤ j ∧ j ≤ 1000 ∧ i.natAbs < 2 ^ 1000
theorem op_powW : OpR X (binaryOp .Pow) (rI CPowW fun i j => .int (i ^ j.toNat)) := opI fun i j _ _ _ _ _ hc q => pow_int hc.1 (by
  obtain ⟨h1, h2, h3⟩ := hc
  have hb : Builtin.Int.intBits i ≤ 1001 := by
    unfold Builtin.Int.intBits
    split
    · omega
    · by_cases z : i.natAbs = 0
      · rw [z]
        decide
      · have := (Nat.log2_lt z).mpr h3
        omega
  have : (Builtin.Int.intBits i : Int) * j ≤ 1001 * 1000 := Int.mul_le_mul (by omega) h2 h1 (by omega)
  have e : (2 : Int) ^ 27 = 134217728 := by decide
  rw [e]
  omega) q
end
end R66

set_option Elab.async false
set_option linter.all false
set_option maxRecDepth 100000
set_option maxHeartbeats 4000000
/-! the law's own drawing: box, take, of -/
namespace M66
open PySem PySem.Spec PyProof.Rows L2 R66
def topS (i : Nat) : Stmt := PySem.Challenge.pw_sourceback_k66_moves_of_lists.main.body.getD i (.Pass ⟨0, 0, 0, 0⟩)
abbrev sMoves : Stmt := topS 1
abbrev sBox : Stmt := topS 3
abbrev sTake : Stmt := topS 4
abbrev sOf : Stmt := topS 5
theorem scB : FnScope ["_law_script", "_law_k", "_law_digits", "_law_own"] ["_law_script", "_law_k"] (defScope sBox) := ⟨rfl, rfl, rfl, by decide +kernel, rfl, by decide +kernel, by decide +kernel⟩
theorem scT : FnScope ["_law_box_here", "_law_many", "_law_digit", "_law_mixed"] ["_law_box_here", "_law_many"] (defScope sTake) := ⟨rfl, rfl, rfl, by decide +kernel, rfl, by decide +kernel, by decide +kernel⟩
theorem scO : FnScope ["_law_box_here", "_law_some"] ["_law_box_here", "_law_some"] (defScope sOf) := ⟨rfl, rfl, rfl, by decide +kernel, rfl, by decide +kernel, by decide +kernel⟩

/-- a box at b, of which at most n mixed numbers were drawn -/
def Box (H : Hp) (b : Addr) (n : Nat) : Prop := ∃ o m c : Int, H b = some (.lst [.int o, .int m, .int c]) ∧ 0 ≤ o ∧ 0 ≤ m ∧ m < 2 ^ 62 ∧ 0 ≤ c ∧ c ≤ n
theorem Box.mono {H : Hp} {b : Addr} {n k : Nat} (h : Box H b n) (e : n ≤ k) : Box H b k := by
  obtain ⟨o, m, c, h1, h2, h3, h4, h5, h6⟩ := h
  exact ⟨o, m, c, h1, h2, h3, h4, h5, by omega⟩

/-- an expression in two ways, its value by what is known of it -/
theorem if_any {t : TT} {a b : TE} {σ : L2.St} {H : Hp} {Q : VK} {R : V → Prop} (h : ∀ Q' : VK, (∀ v, R v → Q' v H) → tIf t a b σ H Q') (q : ∀ v, R v → Q v H) : tIf t a b σ H Q := h Q q
section
variable {P : Program} {w : World} {K : PySem.W.Frag} {mg : Str → Option Value} {base : Heap}
/-- a def of the program by its promise, as a caller wants it -/
structure Dn (P : Program) (w : World) (K : PySem.W.Frag) (mg : Str → Option Value) (base : Heap) (x : Str) (k : Nat) (ps : List Str) (sp : Sp) where
  f : Addr
  fd : FuncData
  ok : FnOk P w K mg base CX0 k f fd ps sp
  g : mg x = some (.ref f)
  kp : PySem.W.keepIn K (.ref f) = true
  b : Binds K fd ps []

def spTake : Sp := fun vs H Q _ => ∃ (b : Addr) (many : Int) (n : Nat), vs = [.ref b, .int many] ∧ Box H b n ∧ n < 1000000 ∧ 0 < many ∧ many < 1000000 ∧
  ∀ (r : Int) (u : HO), 0 ≤ r → r < many → Box (upd H b u) b (n + 1) → Q (.int r) (upd H b u)
theorem ok_take {f : Addr} {fd : FuncData} {k : Nat} (F : Fun K "_law_take" "_law_take" sTake f fd) : FnOk P w K mg base CX0 (k + 1) f fd ["_law_box_here", "_law_many"] spTake := by
  refine F.ok scT (fun vs H Q E h => ?_) (fun cdv A outer s H vs Q E hr h => ?_)
  · obtain ⟨b, many, n, rfl, _⟩ := h
    rfl
  · obtain ⟨b, many, n, rfl, ⟨o, m, c, hb, ho, hm, hm2, hc, hcn⟩, hn, h0, h1, q⟩ := h
    refine ⟨_, (pss_cons (ps_if (pt_cmpR op_gt (pe_ix ix_list (pv 0) pe_int (fun _ _ => rfl)) pe_int (nomark _))
        (pss_cons (ps_set (i := 2) scT.nd rfl (Or.inl rfl) (pe_op op_mod (pe_ix ix_list (pv 0) pe_int (fun _ _ => rfl)) (pv 1)))
        (pss_cons (ps_asg (pe_op op_fdivW (pe_ix ix_list (pv 0) pe_int (fun _ _ => rfl)) (pv 1)) (pg_sub (pv 0) pe_int set_list))
        (pss_one (ps_ret (pv 2)))))
        pss_nil)
      (pss_cons (ps_asg (pe_op op_add (pe_ix ix_list (pv 0) pe_int (fun _ _ => rfl)) pe_int) (pg_sub (pv 0) pe_int set_list))
      (pss_cons (ps_set (i := 3) scT.nd rfl (Or.inl rfl) (pe_op op_mod (pe_op op_mul (pe_op op_add (pe_op op_add (pe_ix ix_list (pv 0) pe_int (fun _ _ => rfl)) (pe_op op_mul (pe_op op_mul pe_int (pe_ix ix_list (pv 0) pe_int (fun _ _ => rfl))) (pe_ix ix_list (pv 0) pe_int (fun _ _ => rfl)))) pe_int) pe_int) pe_int))
      (pss_cons (ps_set (i := 3) scT.nd rfl (Or.inl rfl) (pe_op op_mod (pe_op op_mul (pv 3) (pe_op op_add (pe_op op_mod (pv 3) pe_int) (pe_op op_mul pe_int (pe_ix ix_list (pv 0) pe_int (fun _ _ => rfl))))) pe_int))
      (pss_one (ps_ret (pe_op op_mod (pe_op op_add (pe_op op_fdiv (pv 3) pe_int) (pe_op op_fdiv (pv 3) pe_int)) (pv 1)))))))), ?_⟩
    have hL : SqL K H b [.int o, .int m, .int c] := SqL.of hb
    refine ⟨.ref b, rfl, b, _, 0, .int o, rfl, rfl, hL, rfl, o, 0, rfl, rfl, _, rfl, ite2 (fun e => ?_) (fun e => ?_)⟩
    · have e : 0 < o := of_decide_eq_true e
      refine ⟨.ref b, rfl, b, _, 0, .int o, rfl, rfl, hL, rfl, .int many, rfl, o, many, rfl, rfl, h0, ?_⟩
      refine ⟨.ref b, rfl, b, _, 0, .int o, rfl, rfl, hL, rfl, .int many, rfl, o, many, rfl, rfl, wide_div (b := 20) h0 (by omega) (by decide) (by decide), ?_⟩
      refine ⟨.ref b, rfl, b, _, 0, 0, rfl, rfl, hb, rfl, ?_⟩
      refine ⟨.int (o % many), rfl, ?_⟩
      refine q (o % many) _ (Int.emod_nonneg _ (by omega)) (Int.emod_lt_of_pos _ h0) ⟨o / many, m, c, upd_same, Int.ediv_nonneg ho (by omega), hm, hm2, hc, by omega⟩
    · refine ⟨.ref b, rfl, b, _, 2, .int c, rfl, rfl, hL, rfl, c, 1, rfl, rfl, ?_⟩
      refine ⟨.ref b, rfl, b, _, 2, 2, rfl, rfl, hb, rfl, ?_⟩
      have hb2 : (upd H b (.lst [.int o, .int m, .int (c + 1)])) b = some (.lst [.int o, .int m, .int (c + 1)]) := upd_same
      have hL2 : SqL K (upd H b (.lst [.int o, .int m, .int (c + 1)])) b [.int o, .int m, .int (c + 1)] := SqL.of hb2
      refine ⟨.ref b, rfl, b, _, 1, .int m, rfl, rfl, hL2, rfl, .ref b, rfl, b, _, 2, .int (c + 1), rfl, rfl, hL2, rfl, 65551, c + 1, rfl, rfl, .inl ⟨by decide, by decide⟩, .ref b, rfl, b, _, 2, .int (c + 1), rfl, rfl, hL2, rfl,
        65551 * (c + 1), c + 1, rfl, rfl, .inr ⟨by omega, by omega⟩, m, 65551 * (c + 1) * (c + 1), rfl, rfl, _, 29, rfl, rfl, _, 48281, rfl, rfl, .inr ⟨by decide, by decide⟩, _, 2305843009213693921, rfl, rfl, by show (0 : Int) < _; decide, ?_⟩
      dsimp only
      generalize hx : (m + 65551 * (c + 1) * (c + 1) + 29) * 48281 % 2305843009213693921 = x
      have x0 : 0 ≤ x := by rw [← hx]; exact Int.emod_nonneg _ (by decide)
      have x1 : x < 2305843009213693921 := by rw [← hx]; exact Int.emod_lt_of_pos _ (by decide)
      refine ⟨.int x, rfl, .int x, rfl, x, 1000039, rfl, rfl, by show (0 : Int) < _; decide, .ref b, rfl, b, _, 2, .int (c + 1), rfl, rfl, hL2, rfl, 99989, c + 1, rfl, rfl, .inl ⟨by decide, by decide⟩, _, _, rfl, rfl, x, _, rfl, rfl, .inl ⟨by omega, by omega⟩,
        _, 2305843009213693907, rfl, rfl, by show (0 : Int) < _; decide, ?_⟩
      dsimp only
      generalize hy : x * (x % 1000039 + 99989 * (c + 1)) % 2305843009213693907 = y
      have y0 : 0 ≤ y := by rw [← hy]; exact Int.emod_nonneg _ (by decide)
      refine ⟨.int y, rfl, y, 109, rfl, rfl, ⟨by decide, by decide⟩, .int y, rfl, y, 1000081, rfl, rfl, ⟨by decide, by decide⟩, _, _, rfl, rfl, .int many, rfl, _, many, rfl, rfl, h0, ?_⟩
      exact q _ _ (Int.emod_nonneg _ (by omega)) (Int.emod_lt_of_pos _ h0) ⟨o, m, c + 1, hb2, ho, hm, hm2, by omega, by omega⟩

structure Bl (mg : Str → Option Value) : Prop where
  len : mg "len" = none
  abs : mg "abs" = none
  int : mg "int" = none
  max : mg "max" = none
  min : mg "min" = none
  range : mg "range" = none
  enumerate : mg "enumerate" = none
  sorted : mg "sorted" = none
  list : mg "list" = none
  tuple : mg "tuple" = none
  repr : mg "repr" = none

def spBox (K : PySem.W.Frag) : Sp := fun vs H Q _ => ∃ (a : Addr) (ns : List Int) (k : Nat), vs = [.ref a, .int k] ∧ SqL K H a (ns.map V.int) ∧ k < 1000 ∧
  ∀ (p : Addr) (u : HO), H p = none → Box (upd H p u) p 0 → Q (.ref p) (upd H p u)
theorem ok_box {f : Addr} {fd : FuncData} {k : Nat} (F : Fun K "_law_box" "_law_box" sBox f fd) (T : Bl mg) : FnOk P w K mg base CX0 (k + 1) f fd ["_law_script", "_law_k"] (spBox K) := by
  refine F.ok scB (fun vs H Q E h => ?_) (fun cdv A outer s H vs Q E hr h => ?_)
  · obtain ⟨a, ns, k, rfl, _⟩ := h
    rfl
  · obtain ⟨a, ns, k, rfl, hS, hk, q⟩ := h
    refine ⟨_, (pss_cons (ps_set (i := 2) scB.nd rfl (Or.inl rfl) (pe_ifExp (pt_cmpR op_lt (pv 1) (pe_callB call_len_seq (by rfl) T.len (by decide +kernel) (pa_cons (pv 0) pa_nil)) (nomark _)) (pe_ix ix_list (pv 0) (pv 1) (fun _ _ => rfl)) (pe_op op_add (pe_op op_mul pe_int (pv 1)) pe_int)))
      (pss_cons (ps_set (i := 3) scB.nd rfl (Or.inl rfl) (pe_op op_mul (pe_op op_mod (pe_callB call_abs (by rfl) T.abs (by decide +kernel) (pa_cons (pv 2) pa_nil)) (pe_op op_powW (pe_op op_pow pe_int pe_int) pe_int)) (pe_callTy call_int1 (by rfl) T.int (by decide +kernel) (pa_cons (pe_cmpR op_ge (pe_callB call_abs (by rfl) T.abs (by decide +kernel) (pa_cons (pv 2) pa_nil)) (pe_op op_pow pe_int pe_int) (nomark _)) pa_nil))))
      (pss_one (ps_ret (pe_lst (pa_cons (pv 3) (pa_cons (pe_op op_mod (pe_op op_add (pe_op op_add (pe_op op_mul (pe_op op_mod (pv 2) pe_int) pe_int) (pe_op op_mul (pe_op op_mul pe_int (pv 1)) (pv 1))) pe_int) pe_int) (pa_cons pe_int pa_nil)))))))), ?_⟩
    refine if_any (R := fun v => ∃ d : Int, v = .int d) (fun Q' q' => ?_) (fun v hv => ?_)
    · refine ⟨.int k, rfl, .ref a, rfl, a, _, rfl, .inl hS, (k : Int), _, rfl, rfl, _, rfl, ite2 (fun e => ?_) (fun e => ?_)⟩
      · have e : (k : Int) < ((ns.map V.int).length : Int) := of_decide_eq_true e
        have hl : k < ns.length := by
          rw [List.length_map] at e
          omega
        exact ⟨.ref a, rfl, .int k, rfl, a, _, (k : Int), .int ns[k], rfl, rfl, hS, atI_nat (by simp [hl]), q' _ ⟨_, rfl⟩⟩
      · exact ⟨.int k, rfl, 37, (k : Int), rfl, rfl, .inl ⟨by decide, by decide⟩, 37 * (k : Int), 5, rfl, rfl, q' _ ⟨_, rfl⟩⟩
    · obtain ⟨d, rfl⟩ := hv
      refine ⟨.int d, rfl, d, rfl, 10, 60, rfl, rfl, ⟨by decide, by decide, by decide⟩, 10 ^ 60, 5, rfl, rfl, ⟨by decide, by decide, by decide +kernel⟩, _, (10 ^ 60) ^ 5, rfl, rfl, by show (0 : Int) < _; decide +kernel, .int d, rfl, d, rfl, 10, 18, rfl, rfl, ⟨by decide, by decide, by decide⟩, _, 10 ^ 18, rfl, rfl, .inr ⟨_, rfl, ?_⟩⟩
      generalize (if d < 0 then -d else d) = e
      have hb : ∀ k : Bool, CMul (e % (10 ^ 60) ^ 5) (if k = true then 1 else 0) := fun k => .inr (by cases k <;> exact ⟨by decide, by decide⟩)
      refine ⟨_, _, rfl, rfl, hb _, ?_⟩
      dsimp only
      have ho : ∀ k : Bool, 0 ≤ e % (10 ^ 60) ^ 5 * (if k = true then 1 else 0) := fun k => Int.mul_nonneg (Int.emod_nonneg _ (by decide +kernel)) (by cases k <;> decide)
      have h2 := ho (decide (10 ^ 18 ≤ e))
      generalize (e % (10 ^ 60) ^ 5 * (if decide (10 ^ 18 ≤ e) = true then 1 else 0)) = o at h2
      refine ⟨.int o, rfl, .int d, rfl, d, 2305843009213693951, rfl, rfl, by show (0 : Int) < _; decide, _, 70079, rfl, rfl, .inr ⟨by decide, by decide⟩, .int k, rfl, 4799, (k : Int), rfl, rfl, .inl ⟨by decide, by decide⟩, .int k, rfl, _, (k : Int), rfl, rfl, .inr ⟨by omega, by omega⟩,
        _, _, rfl, rfl, _, 71, rfl, rfl, _, 2305843009213693921, rfl, rfl, by show (0 : Int) < _; decide, by show 3 ≤ sizeLine; decide, fun p hp => ?_⟩
      dsimp only
      exact q p _ hp ⟨o, _, 0, upd_same, h2, Int.emod_nonneg _ (by decide), Int.lt_trans (Int.emod_lt_of_pos _ (by decide)) (by decide), by decide, by decide⟩

def spOf : Sp := fun vs H Q _ => ∃ (b l : Addr) (xs : List V) (n : Nat), vs = [.ref b, .ref l] ∧ H l = some (.lst xs) ∧ l ≠ b ∧ Box H b n ∧ n < 1000000 ∧ 0 < xs.length ∧ xs.length < 1000000 ∧
  ∀ (x : V) (u : HO), x ∈ xs → Box (upd H b u) b (n + 1) → Q x (upd H b u)
theorem ok_of {f : Addr} {fd : FuncData} {k : Nat} (F : Fun K "_law_of" "_law_of" sOf f fd) (T : Bl mg) (d_take : Dn P w K mg base "_law_take" 1 ["_law_box_here", "_law_many"] spTake) : FnOk P w K mg base CX0 (k + 2) f fd ["_law_box_here", "_law_some"] spOf := by
  refine F.ok scO (fun vs H Q E h => ?_) (fun cdv A outer s H vs Q E hr h => ?_)
  · obtain ⟨b, l, xs, n, rfl, _⟩ := h
    rfl
  · obtain ⟨b, l, xs, n, rfl, hl, ne, hB, hn, h0, h1, q⟩ := h
    refine ⟨_, (pss_one (ps_ret (pe_ix ix_list (pv 1) (pe_call d_take.ok (hr.mono (Nat.le_add_left 1 k)) (by rfl) d_take.g d_take.kp d_take.b .nil pass0 (pa_cons (pv 0) (pa_cons (pe_callB call_len_seq (by rfl) T.len (by decide +kernel) (pa_cons (pv 1) pa_nil)) pa_nil))) (fun _ _ => rfl)))), ?_⟩
    refine ⟨.ref l, rfl, .ref b, rfl, .ref l, rfl, l, xs, rfl, .inl (SqL.of hl), b, xs.length, n, rfl, hB, hn, by omega, by omega, fun r u r0 r1 hB2 => ?_⟩
    obtain ⟨j, rfl⟩ : ∃ j : Nat, r = j := ⟨r.toNat, by omega⟩
    have hj : j < xs.length := by omega
    exact ⟨l, xs, j, xs[j], rfl, rfl, SqL.of (by rw [upd_ne ne]; exact hl), atI_nat (List.getElem?_eq_getElem hj), q _ u (List.getElem_mem hj) hB2⟩
end
end M66

set_option Elab.async false
set_option linter.all false
set_option maxRecDepth 100000
set_option maxHeartbeats 4000000
/-! stirred -/
namespace M66
open PySem PySem.Spec PyProof.Rows L2 R66
abbrev sStirred : Stmt := topS 6
theorem scS : FnScope ["_law_box_here", "_law_some", "_law_left", "_law_found"] ["_law_box_here", "_law_some"] (defScope sStirred) := ⟨rfl, rfl, rfl, by decide +kernel, rfl, by decide +kernel, by decide +kernel⟩
/-- all but b is as it was -/
def Off (b : Addr) (H H' : Hp) : Prop := ∀ a o, a ≠ b → H a = some o → H' a = some o
theorem Off.refl (b : Addr) (H : Hp) : Off b H H := fun _ _ _ h => h
theorem Off.trans {b : Addr} {H H1 H2 : Hp} (x : Off b H H1) (y : Off b H1 H2) : Off b H H2 := fun a o n h => y a o n (x a o n h)
theorem Off.box {b : Addr} {H : Hp} {u : HO} : Off b H (upd H b u) := fun a o n h => by
  rw [upd_ne n]
  exact h
theorem Off.new {b p : Addr} {H : Hp} {u : HO} (hp : H p = none) : Off b H (upd H p u) := fun a o _ h => by
  rw [upd_ne (ne_of_none h hp)]
  exact h
/-- what H did not know may change -/
theorem Off.put {b p : Addr} {H H' : Hp} {u : HO} (x : Off b H H') (hp : H p = none) : Off b H (upd H' p u) := fun a o n h => by
  rw [upd_ne (ne_of_none h hp)]
  exact x a o n h
theorem Box.new {H : Hp} {b p : Addr} {n : Nat} {u : HO} (h : Box H b n) (ne : p ≠ b) : Box (upd H p u) b n := by
  obtain ⟨o, m, c, h1, h2⟩ := h
  exact ⟨o, m, c, by rw [upd_ne ne.symm]; exact h1, h2⟩
theorem Box.ne {H : Hp} {b p : Addr} {n : Nat} (h : Box H b n) (hp : H p = none) : p ≠ b := fun e => by
  obtain ⟨o, m, c, h1, h2⟩ := h
  rw [← e, hp] at h1
  cases h1
/-! ### lists of ints as data -/
abbrev iVs (ns : List Int) : List V := ns.map V.int
theorem erase_map : ∀ (ns : List Int) (j : Nat), (iVs ns).eraseIdx j = iVs (ns.eraseIdx j)
  | [], _ => rfl
  | _ :: _, 0 => rfl
  | n :: r, j + 1 => by
    show V.int n :: (iVs r).eraseIdx j = V.int n :: iVs (r.eraseIdx j)
    rw [erase_map r j]
theorem erase_perm : ∀ (ns : List Int) (j : Nat) (h : j < ns.length), (ns[j] :: ns.eraseIdx j).Perm ns
  | n :: r, 0, _ => List.Perm.refl _
  | n :: r, j + 1, h => by
    have hj : j < r.length := by simpa using h
    have ih := erase_perm r j hj
    exact (List.Perm.swap n r[j] _).trans (ih.cons n)
theorem dpI (K : PySem.W.Frag) (H : Hp) : ∀ ns : List Int, DpAll K H (iVs ns) (ns.map PyData.int)
  | [] => .nil
  | n :: r => .cons (.int n) (dpI K H r)
theorem layI : ∀ ns : List Int, PyData.canLayAll0 (ns.map PyData.int) = true
  | [] => rfl
  | n :: r => by
    rw [List.map_cons, PyData.canLayAll0, layI r]
    rfl
theorem depI : ∀ ns : List Int, PyData.depthAll (ns.map PyData.int) ≤ 1
  | [] => by decide
  | n :: r => by
    have := depI r
    rw [List.map_cons, PyData.depthAll]
    simp [PyData.depth]
    omega
theorem shI (ns : List Int) : SeqAt.shaped (.list (ns.map PyData.int)) = true := by
  unfold SeqAt.shaped
  have h1 : PyData.canLay0 (.list (ns.map PyData.int)) = true := layI ns
  have h2 := depI ns
  rw [h1]
  simp [PyData.depth]
  omega
theorem eqI : ∀ ns ms : List Int, PyData.eqvAll (ns.map PyData.int) (ms.map PyData.int) = decide (ns = ms)
  | [], [] => rfl
  | [], _ :: _ => rfl
  | _ :: _, [] => rfl
  | n :: r, m :: t => by
    rw [List.map_cons, List.map_cons, PyData.eqvAll, eqI r t]
    by_cases e : n = m
    · subst e
      simp [PyData.eqv]
    · have : ¬ (n :: r = m :: t) := fun z => e (List.cons.inj z).1
      simp [PyData.eqv, e]
theorem eqL (ns ms : List Int) : PyData.eqv (.list (ns.map PyData.int)) (.list (ms.map PyData.int)) = decide (ns = ms) := eqI ns ms

section
variable {P : Program} {w : World} {K : PySem.W.Frag} {mg : Str → Option Value} {base : Heap}
def spStirred : Sp := fun vs H Q _ => ∃ (b l : Addr) (ns : List Int) (n : Nat), vs = [.ref b, .ref l] ∧ H l = some (.lst (iVs ns)) ∧ l ≠ b ∧ Box H b n ∧ n + 2 * ns.length < 1000000 ∧ ns.length < 1000 ∧
  ∀ (H' : Hp) (p : Addr) (ys : List Int), ys.Perm ns → H p = none → H' p = some (.lst (iVs ys)) → Box H' b (n + 2 * ns.length) → Off b H H' → Q (.ref p) H'
theorem ok_stirred {f : Addr} {fd : FuncData} (F : Fun K "_law_stirred" "_law_stirred" sStirred f fd) (T : Bl mg) (d_take : Dn P w K mg base "_law_take" 1 ["_law_box_here", "_law_many"] spTake)
    (d_of : Dn P w K mg base "_law_of" 2 ["_law_box_here", "_law_some"] spOf) : FnOk P w K mg base CX0 3 f fd ["_law_box_here", "_law_some"] spStirred := by
  refine F.ok scS (fun vs H Q E h => ?_) (fun cdv A outer s H vs Q E hr h => ?_)
  · obtain ⟨b, l, ns, n, rfl, _⟩ := h
    rfl
  · obtain ⟨b, l, ns, n, rfl, hl, ne, hB, hn, hlen, q⟩ := h
    refine ⟨_, (pss_cons (ps_par (i := 2) (j := 3) (by rfl) scS.nd rfl rfl (by decide) rfl rfl (pa_cons (pe_callTy call_list_of (by rfl) T.list (by decide +kernel) (pa_cons (pv 1) pa_nil)) (pa_cons (pe_lst pa_nil) pa_nil)) (by rfl))
      (pss_cons (ps_while PassesOwn.never (pt_cmpR (op_neD hr.units) (pv 2) (pe_lst pa_nil) (nomark _))
        (pss_one (ps_expr (pe_bm PySem.F.plainAttrs_list PySem.F.slot_list_append PySem.F.type_list_append mt_append (pv 3) (pa_cons (pe_bm PySem.F.plainAttrs_list PySem.F.slot_list_pop PySem.F.type_list_pop mt_popAt (pv 2) (pa_cons (pe_call d_of.ok (hr.mono (by decide)) (by rfl) d_of.g d_of.kp d_of.b .nil pass0 (pa_cons (pv 0) (pa_cons (pe_lst (pa_cons pe_int (pa_cons pe_int (pa_cons (pe_call d_take.ok (hr.mono (by decide)) (by rfl) d_take.g d_take.kp d_take.b .nil pass0 (pa_cons (pv 0) (pa_cons (pe_callB call_len_seq (by rfl) T.len (by decide +kernel) (pa_cons (pv 2) pa_nil)) pa_nil))) pa_nil)))) pa_nil))) pa_nil)) pa_nil)))))
      (pss_one (ps_ret (pv 3))))), ?_⟩
    refine ⟨.ref l, rfl, l, _, rfl, .inl (SqL.of hl), fun L nL => ⟨Nat.zero_le _, fun G nG => ⟨_, _, rfl, ?_⟩⟩⟩
    have nLb := hB.ne nL
    have hB1 : Box (upd H L (.lst (iVs ns))) b n := hB.new nLb
    have nGb := hB1.ne nG
    have nLG : L ≠ G := fun e => by
      rw [← e, upd_same] at nG
      cases nG
    have nG0 : H G = none := by
      rw [upd_ne nLG.symm] at nG
      exact nG
    refine ⟨fun m σ H3 => ∃ rem fnd : List Int, m = rem.length ∧ σ = [some (.ref b), some (.ref l), some (.ref L), some (.ref G)] ∧ H3 L = some (.lst (iVs rem)) ∧ H3 G = some (.lst (iVs fnd)) ∧ (fnd ++ rem).Perm ns ∧ Box H3 b (n + 2 * fnd.length) ∧ Off b H H3,
      ⟨_, ns, [], rfl, rfl, ?_, upd_same, List.Perm.refl _, hB1.new nGb, (Off.new nL).put nG0⟩, fun m σ H3 hW => ?_⟩
    · rw [upd_ne nLG]
      exact upd_same
    · obtain ⟨rem, fnd, rfl, rfl, hL, hG, hp, hB3, off⟩ := hW
      have lens : fnd.length + rem.length = ns.length := by
        rw [← List.length_append]
        exact hp.length_eq
      refine ⟨.ref L, rfl, Nat.zero_le _, fun z nz => ?_⟩
      have nzL : L ≠ z := ne_of_none hL nz
      have nzG : G ≠ z := ne_of_none hG nz
      have nzb := hB3.ne nz
      have hL4 : (upd H3 z (.lst [])) L = some (.lst (iVs rem)) := by
        rw [upd_ne nzL]
        exact hL
      have hG4 : (upd H3 z (.lst [])) G = some (.lst (iVs fnd)) := by
        rw [upd_ne nzG]
        exact hG
      have hB4 : Box (upd H3 z (.lst [])) b (n + 2 * fnd.length) := hB3.new nzb
      have off4 : Off b H (upd H3 z (.lst [])) := off.trans (Off.new nz)
      refine ⟨_, _, Dp.lst (SqL.of hL4) (dpI _ _ rem), Dp.lst (SqL.of upd_same) (dpI _ _ []), shI rem, shI [], ?_⟩
      rw [eqL]
      refine ⟨_, rfl, ite2 (fun e => ?_) (fun e => ?_)⟩
      · have hr0 : rem ≠ [] := fun z => by
          subst z
          exact absurd e (by decide)
        have hr1 : 0 < rem.length := List.length_pos_iff.mpr hr0
        refine ⟨fun σ' H' => ∃ rem' fnd' : List Int, rem'.length < rem.length ∧ σ' = [some (.ref b), some (.ref l), some (.ref L), some (.ref G)] ∧ H' L = some (.lst (iVs rem')) ∧ H' G = some (.lst (iVs fnd')) ∧ (fnd' ++ rem').Perm ns ∧ Box H' b (n + 2 * fnd'.length) ∧ Off b H H',
          fun σ' H' hN => ?_, ?_⟩
        · obtain ⟨rem', fnd', h1, h2⟩ := hN
          exact ⟨rem'.length, h1, rem', fnd', rfl, h2⟩
        · refine ⟨.ref G, rfl, .inl ⟨rfl, _, SqL.of hG4⟩, .ref L, rfl, .inl ⟨rfl, _, SqL.of hL4⟩, .ref b, rfl, .ref b, rfl, .ref L, rfl, L, _, rfl, .inl (SqL.of hL4), b, _, _, rfl, hB4, by omega, ?_, ?_, fun r u r0 r1 hB5 => ?_⟩
          · show (0 : Int) < ((iVs rem).length : Int)
            rw [List.length_map]
            omega
          · rw [List.length_map]
            omega
          · have hL5 : (upd (upd H3 z (.lst [])) b u) L = some (.lst (iVs rem)) := by
              rw [upd_ne nLb]
              exact hL4
            have hG5 : (upd (upd H3 z (.lst [])) b u) G = some (.lst (iVs fnd)) := by
              rw [upd_ne nGb]
              exact hG4
            refine ⟨by show 3 ≤ sizeLine; decide, fun t nt => ?_⟩
            have ntb := hB5.ne nt
            have ntL := ne_of_none hL5 nt
            have ntG := ne_of_none hG5 nt
            refine ⟨b, t, [.int 0, .int 0, .int r], _, rfl, upd_same, ntb, hB5.new ntb, by omega, by show 0 < 3; decide, by show 3 < 1000000; decide, fun x u2 hx hB6 => ?_⟩
            rw [List.length_map] at r1
            have hx2 : ∃ j : Nat, x = .int (j : Int) ∧ j < rem.length := by
              rcases List.mem_cons.mp hx with rfl | hx
              · exact ⟨0, rfl, hr1⟩
              · rcases List.mem_cons.mp hx with rfl | hx
                · exact ⟨0, rfl, hr1⟩
                · have e : x = .int r := by simpa using hx
                  exact ⟨r.toNat, by rw [e]; congr 1; omega, by omega⟩
            obtain ⟨j, rfl, hj⟩ := hx2
            have hL6 : (upd (upd (upd (upd H3 z (.lst [])) b u) t (.lst [.int 0, .int 0, .int r])) b u2) L = some (.lst (iVs rem)) := by
              rw [upd_ne nLb, upd_ne ntL]
              exact hL5
            have hG6 : (upd (upd (upd (upd H3 z (.lst [])) b u) t (.lst [.int 0, .int 0, .int r])) b u2) G = some (.lst (iVs fnd)) := by
              rw [upd_ne nGb, upd_ne ntG]
              exact hG5
            have off6 : Off b H (upd (upd (upd (upd H3 z (.lst [])) b u) t (.lst [.int 0, .int 0, .int r])) b u2) := ((off4.trans Off.box).trans (Off.new nt)).trans Off.box
            refine ⟨L, _, (j : Int), j, .int rem[j], rfl, rfl, hL6, by omega, by omega, ?_, by simp [hj], ?_⟩
            · rw [List.length_map]
              unfold seqIndex?
              simp
              omega
            · have e1 : (iVs rem).eraseIdx j = iVs (rem.eraseIdx j) := erase_map rem j
              rw [e1]
              refine ⟨G, _, .int rem[j], rfl, rfl, by rw [upd_ne nLG.symm]; exact hG6, by rw [List.length_map]; exact small1000 (by omega), ?_⟩
              refine ⟨rem.eraseIdx j, fnd ++ [rem[j]], ?_, rfl, ?_, ?_, ?_, ?_, ?_⟩
              · rw [List.length_eraseIdx, if_pos hj]
                omega
              · rw [upd_ne nLG]
                exact upd_same
              · rw [upd_same, show iVs (fnd ++ [rem[j]]) = iVs fnd ++ [.int rem[j]] from List.map_append]
              · refine List.Perm.trans ?_ hp
                rw [List.append_assoc]
                exact List.Perm.append_left _ (erase_perm rem j hj)
              · rw [List.length_append]
                exact ((hB6.new nLb).new nGb).mono (by show _ ≤ n + 2 * (fnd.length + 1); omega)
              · exact (off6.put nL).put nG0
      · have e0 : rem = [] := by
          have : (decide (rem = []) : Bool) = true := by simpa using e
          exact of_decide_eq_true this
        subst e0
        rw [List.append_nil] at hp
        rw [List.length_nil, Nat.add_zero] at lens
        exact ⟨.ref G, rfl, q _ G fnd hp nG0 hG4 (hB4.mono (by omega)) off4⟩
end
end M66

set_option Elab.async false
set_option linter.all false
set_option maxRecDepth 100000
set_option maxHeartbeats 4000000
/-! moves -/
namespace M66
open PySem PySem.Spec PyProof.Rows L2 R66
theorem scM : FnScope ["old", "new", "places", "best", "at", "place", "one", "ahead"] ["old", "new"] (defScope sMoves) := ⟨rfl, rfl, rfl, by decide +kernel, rfl, by decide +kernel, by decide +kernel⟩
theorem same_new {H : Hp} {p : Addr} {o : HO} (h : H p = none) : Same H (upd H p o) := fun b x e => by
  rw [upd_ne (ne_of_none e h)]
  exact e
theorem same_put {H H' : Hp} {p : Addr} {o : HO} (x : Same H H') (h : H p = none) : Same H (upd H' p o) := fun b y e => by
  rw [upd_ne (ne_of_none e h)]
  exact x b y e
theorem same_fz {H H' : Hp} {a : Addr} {xs : List V} (x : Same H H') (h : FzT H a xs) : FzT H' a xs := by
  obtain ⟨o, h1, h2⟩ := h
  exact ⟨o, x _ _ h1, h2⟩
theorem same_t {K : PySem.W.Frag} {H H' : Hp} {a : Addr} {xs : List V} (e : Same H H') (h : SqT K H a xs) : SqT K H' a xs := by
  rcases h with (h | ⟨o, h⟩) | h
  · exact .inl (.inl (e _ _ h))
  · exact .inl (.inr ⟨o, e _ _ h⟩)
  · exact .inr h
theorem flI (ns : List Int) : (iVs ns).all flatV = true := by
  rw [List.all_map]
  exact List.all_eq_true.mpr fun _ _ => rfl
theorem inI : ∀ (n : Int) (ns : List Int), inV (.int n) (iVs ns) = decide (n ∈ ns)
  | n, [] => rfl
  | n, m :: r => by
    have ih := inI n r
    unfold inV at ih ⊢
    rw [show iVs (m :: r) = .int m :: iVs r from rfl, List.any_cons, ih]
    show (m == n || decide (n ∈ r)) = _
    by_cases e : m = n
    · subst e
      simp
    · have e' : n ≠ m := fun z => e z.symm
      simp [e, e']
theorem atV {ns : List Int} {i : Nat} {x : V} (h : (iVs ns)[i]? = some x) : ∃ n, ns[i]? = some n ∧ x = .int n := by
  rw [List.getElem?_map] at h
  cases e : ns[i]? with
  | none => rw [e] at h; cases h
  | some n => rw [e] at h; cases h; exact ⟨n, rfl, rfl⟩
theorem take_next {ns : List Int} {i : Nat} {n : Int} (h : ns[i]? = some n) : ns.take (i + 1) = ns.take i ++ [n] := by
  rw [List.take_add_one, h]
  rfl
theorem ixs_snoc (old a : List Int) (n : Int) : ixs old (a ++ [n]) = ixs old a ++ (if n ∈ old then [(old.idxOf n : Int)] else []) := by
  unfold ixs
  rw [List.filter_append, List.map_append]
  by_cases e : n ∈ old <;> simp [List.filter, e]
theorem ahead_snoc (a : List (Int × Int)) (q : Int × Int) (p : Int) : ahead (a ++ [q]) p = ahead a p ++ (if q.1 < p then [q.2] else []) := by
  unfold ahead
  rw [List.filter_append, List.map_append]
  by_cases e : q.1 < p <;> simp [List.filter, e]
theorem ahead_len (a : List (Int × Int)) (p : Int) : (ahead a p).length ≤ a.length := by
  unfold ahead
  rw [List.length_map]
  exact List.length_filter_le _ _
theorem tab_at (a : List Int) (j : Nat) (h : j < a.length) : ∃ b, a[j]? = some a[j] ∧ (bst a)[j]? = some b ∧ (tab [] a)[j]? = some (a[j], b) := by
  have hb : j < (bst a).length := by rw [bst_len]; exact h
  refine ⟨(bst a)[j], List.getElem?_eq_getElem h, List.getElem?_eq_getElem hb, ?_⟩
  rw [tab_zip, List.getElem?_zip_eq_some]
  exact ⟨List.getElem?_eq_getElem h, List.getElem?_eq_getElem hb⟩
theorem ahead_pos (a : List Int) (p : Int) : ∀ y ∈ ahead (tab [] a) p, 0 ≤ y := fun y hy => by
  obtain ⟨q, hq, rfl⟩ := List.mem_map.mp hy
  have := tab_pos a [] (fun _ h => nomatch h) q (List.mem_filter.mp hq).1
  omega
theorem iVs_snoc (a : List Int) (n : Int) : iVs (a ++ [n]) = iVs a ++ [.int n] := List.map_append
theorem iVs_len (a : List Int) : (iVs a).length = a.length := List.length_map ..
theorem iVs_at {a : List Int} {i : Nat} {n : Int} (h : a[i]? = some n) : (iVs a)[i]? = some (.int n) := by
  rw [List.getElem?_map, h]
  rfl
theorem ixs_len_le (old a : List Int) : (ixs old a).length ≤ a.length := by
  unfold ixs
  rw [List.length_map]
  exact List.length_filter_le _ _
section
variable {P : Program} {w : World} {K : PySem.W.Frag} {mg : Str → Option Value} {base : Heap}
def spMoves (K : PySem.W.Frag) : Sp := fun vs H Q _ => ∃ (a c : Addr) (old new : List Int), vs = [.ref a, .ref c] ∧ FzT H a (iVs old) ∧ SqT K H c (iVs new) ∧ new.length < 1000 ∧ ∀ H', Same H H' → Q (.int (mv old new)) H'
theorem ok_moves {f : Addr} {fd : FuncData} {k : Nat} (F : Fun K "moves" "moves" sMoves f fd) (T : Bl mg) : FnOk P w K mg base CX0 (k + 1) f fd ["old", "new"] (spMoves K) := by
  refine F.ok scM (fun vs H Q E h => ?_) (fun cdv A outer s H vs Q E hr h => ?_)
  · obtain ⟨a, c, old, new, rfl, _⟩ := h
    rfl
  · obtain ⟨a, c, old, new, rfl, hO, hN, hlen, q⟩ := h
    refine ⟨_, (pss_cons (ps_set (i := 2) scM.nd rfl (Or.inr rfl) (pe_lc (own := [("one", 6)]) (g := gName 6) (by rfl) scM.nd (pi_tup (pv 1)) (blkOk_by (own := [("one", 6)]) (N := ["old", "new", "places", "best", "at", "place", "one", "ahead"]) (sc := defScope sMoves) (by decide +kernel)) (fun _ _ _ _ _ => (pg_name (i := 6) scM.nd rfl (Or.inl rfl))) (fun _ _ _ _ _ => (pts_one (pt_cmpR (r := rIn K false) op_in_seq (pv 6) (pv 0) (by rfl)))) (fun _ _ _ _ _ => (pe_bmT (r := rIndexT K) PySem.F.slot_tuple_index PySem.F.type_tuple_index mt_indexT (pv 0) (pa_cons (pv 6) pa_nil)))))
      (pss_cons (ps_set (i := 3) scM.nd rfl (Or.inr rfl) (pe_lst pa_nil))
      (pss_cons (ps_for PassesOwn.never rfl (pi_enum (by rfl) T.enumerate (pa_cons (pv 2) pa_nil)) (pg_tup rfl (pgs_cons (pg_name (i := 4) scM.nd rfl (Or.inl rfl)) (pgs_cons (pg_name (i := 5) scM.nd rfl (Or.inr rfl)) pgs_nil)))
        (pss_one (ps_expr (pe_bm PySem.F.plainAttrs_list PySem.F.slot_list_append PySem.F.type_list_append mt_append (pv 3) (pa_cons (pe_op op_add pe_int (pe_callBK (cr_maxDef rfl) (by rfl) T.max (by decide +kernel) (pa_cons (pe_lc (own := [("ahead", 7)]) (g := gName 7) (by rfl) scM.nd (pi_range1 (by rfl) T.range (pa_cons (pv 4) pa_nil)) (blkOk_by (own := [("ahead", 7)]) (N := ["old", "new", "places", "best", "at", "place", "one", "ahead"]) (sc := defScope sMoves) (by decide +kernel)) (fun _ _ _ _ _ => (pg_name (i := 7) scM.nd rfl (Or.inl rfl))) (fun _ _ _ _ _ => (pts_one (pt_cmpR op_lt (pe_ix (r := rIxL K) ix_list (pv 2) (pv 7) (fun _ _ => rfl)) (pv 5) (nomark _)))) (fun _ _ _ _ _ => (pe_ix (r := rIxL K) ix_list (pv 3) (pv 7) (fun _ _ => rfl)))) pa_nil) (pk_cons pe_int pk_nil))) pa_nil)))))
      (pss_one (ps_ret (pe_op op_sub (pe_callB call_len_seq (by rfl) T.len (by decide +kernel) (pa_cons (pv 2) pa_nil)) (pe_callBK (cr_maxDef rfl) (by rfl) T.max (by decide +kernel) (pa_cons (pv 3) pa_nil) (pk_cons pe_int pk_nil)))))))), ?_⟩
    -- places = [..]
    refine ⟨.ref c, rfl, c, rfl, ⟨_, hN⟩, fun D nD => lc_tup (xs := iVs new) (fun i H2 => Same H H2 ∧ H2 D = some (.lst (iVs (ixs old (new.take i))))) ⟨same_new nD, upd_same⟩ (fun i H2 _ h => same_t h.1 hN) (fun i x H2 hx h => ?_) (fun H2 h => ?_)⟩
    · obtain ⟨n, hn, rfl⟩ := atV hx
      obtain ⟨sm, hD⟩ := h
      refine ⟨rfl, .int n, rfl, .ref a, rfl, a, _, rfl, .inr (same_fz sm hO).sq, rfl, flI old, _, rfl, ?_⟩
      rw [take_next hn, ixs_snoc]
      show if inV (.int n) (iVs old) = true then _ else _
      rw [inI]
      refine ite2 (fun e => ?_) (fun e => ?_)
      · have e : n ∈ old := of_decide_eq_true e
        rw [if_pos e]
        refine ⟨.ref a, rfl, ⟨a, _, rfl, same_fz sm hO⟩, .int n, rfl, a, old, n, rfl, rfl, (same_fz sm hO).sq, e, _, hD, ?_, same_put sm nD, ?_⟩
        · rw [List.length_map]
          exact small1000 (Nat.le_trans (ixs_len_le _ _) (by rw [List.length_take]; omega))
        · rw [upd_same, show iVs (ixs old (new.take i) ++ [(old.idxOf n : Int)]) = iVs (ixs old (new.take i)) ++ [.int (old.idxOf n : Int)] from List.map_append]
      · have e : n ∉ old := fun z => e (decide_eq_true z)
        rw [if_neg e, List.append_nil]
        exact ⟨sm, hD⟩
    · obtain ⟨sm, hD⟩ := h
      rw [show (iVs new).length = new.length from List.length_map .., List.take_length] at hD
      have hpl : (ixs old new).length < 1000 := Nat.lt_of_le_of_lt (ixs_len_le old new) hlen
      have emv : mv old new = ((ixs old new).length : Int) - lis (ixs old new) := rfl
      generalize ixs old new = pl at hD hpl emv
      -- best = []
      refine ⟨Nat.zero_le _, fun B nB => ?_⟩
      have nBD : D ≠ B := ne_of_none hD nB
      have nB0 : H B = none := sm.free nB
      refine ⟨.ref D, rfl, D, iVs pl, rfl, SqL.of (by rw [upd_ne nBD]; exact hD), for_it (walk_enum (K := K) (a := D) (xs := iVs pl)) (fun i σ H3 => ∃ y4 y5 y6 y7, σ = [some (.ref a), some (.ref c), some (.ref D), some (.ref B), y4, y5, y6, y7] ∧ Same H H3 ∧ H3 D = some (.lst (iVs pl)) ∧ H3 B = some (.lst (iVs (bst (pl.take i)))))
        ⟨none, none, none, none, rfl, sm.trans (same_new nB), by rw [upd_ne nBD]; exact hD, upd_same⟩ (fun i σ H3 _ ⟨_, _, _, _, _, _, hd, _⟩ => SqL.of hd) (fun i x σ H3 H4 hi hP hY => ?_) (fun σ H3 hP => ?_)⟩
      · obtain ⟨y4, y5, y6, y7, rfl, sm3, hD3, hB3⟩ := hP
        obtain ⟨t, x1, x2, rfl, nt, rfl, e1, e2⟩ := hY
        obtain ⟨p, hp, rfl⟩ := atV e2
        have e1 : x1 = .int (i : Nat) := (Option.some.inj e1).symm
        subst e1
        have hi : i < pl.length := by
          rw [List.length_map] at hi
          exact hi
        refine ⟨t, _, rfl, SqT.of upd_same, rfl, _, _, rfl, _, _, rfl, rfl, ?_⟩
        have ntD := ne_of_none hD3 nt
        have ntB := ne_of_none hB3 nt
        have hD4 : (upd H3 t (.tup [.int (i : Nat), .int p])) D = some (.lst (iVs pl)) := by
          rw [upd_ne ntD]
          exact hD3
        have hB4 : (upd H3 t (.tup [.int (i : Nat), .int p])) B = some (.lst (iVs (bst (pl.take i)))) := by
          rw [upd_ne ntB]
          exact hB3
        have sm4 : Same H (upd H3 t (.tup [.int (i : Nat), .int p])) := sm3.trans (same_new nt)
        generalize upd H3 t (.tup [.int (i : Nat), .int p]) = H4 at hD4 hB4 sm4
        have hti : (pl.take i).length = i := by
          rw [List.length_take]
          omega
        refine ⟨.ref B, rfl, .inl ⟨rfl, _, SqL.of hB4⟩, .int (i : Nat), rfl, (i : Int), rfl, by omega, by omega, fun D2 nD2 => ?_⟩
        have ne1 := ne_of_none hD4 nD2
        have ne2 := ne_of_none hB4 nD2
        refine lc_range (lo := 0) (n := (i : Int).toNat) (fun j H5 => Same H4 H5 ∧ H5 D2 = some (.lst (iVs (ahead ((tab [] (pl.take i)).take j) p)))) ⟨same_new nD2, upd_same⟩ (fun j H5 hj hP => ?_) (fun H5 hP => ?_)
        · obtain ⟨sm5, h5⟩ := hP
          have hj : j < (pl.take i).length := by omega
          obtain ⟨b, t1, t2, t3⟩ := tab_at (pl.take i) j hj
          have t0 : pl[j]? = some (pl.take i)[j] := by
            rw [List.getElem?_take_of_lt (by omega)] at t1
            exact t1
          rw [Int.zero_add]
          refine ⟨rfl, .ref D, rfl, .int (j : Nat), rfl, D, _, (j : Nat), _, rfl, rfl, SqL.of (sm5 _ _ hD4), atI_nat (iVs_at t0), .int p, rfl, _, p, rfl, rfl, _, rfl, ?_⟩
          rw [List.take_add_one, t3]
          show if decide ((pl.take i)[j] < p) = true then _ else _
          refine ite2 (fun e => ?_) (fun e => ?_)
          · have e : (pl.take i)[j] < p := of_decide_eq_true e
            refine ⟨.ref B, rfl, .int (j : Nat), rfl, B, _, (j : Nat), _, rfl, rfl, SqL.of (sm5 _ _ hB4), atI_nat (iVs_at t2), _, h5, ?_, same_put sm5 nD2, ?_⟩
            · rw [iVs_len]
              exact small1000 (Nat.le_trans (ahead_len _ _) (by rw [List.length_take, tab_len]; omega))
            · rw [upd_same]
              show _ = some (HO.lst (iVs (ahead ((tab [] (pl.take i)).take j ++ [((pl.take i)[j], b)]) p)))
              rw [ahead_snoc, if_pos e, iVs_snoc]
          · have e : ¬ (pl.take i)[j] < p := fun z => e (decide_eq_true z)
            refine ⟨sm5, ?_⟩
            show _ = some (HO.lst (iVs (ahead ((tab [] (pl.take i)).take j ++ [((pl.take i)[j], b)]) p)))
            rw [ahead_snoc, if_neg e, List.append_nil]
            exact h5
        · obtain ⟨sm5, h5⟩ := hP
          rw [Int.toNat_natCast, List.take_of_length_le (by rw [tab_len]; omega)] at h5
          have fin : ∀ m : Int, m = mx (ahead (tab [] (pl.take i)) p) → Same H (upd H5 B (.lst (iVs (bst (pl.take i)) ++ [.int (1 + m)]))) ∧
              (upd H5 B (.lst (iVs (bst (pl.take i)) ++ [.int (1 + m)]))) D = some (.lst (iVs pl)) ∧ (upd H5 B (.lst (iVs (bst (pl.take i)) ++ [.int (1 + m)]))) B = some (.lst (iVs (bst (pl.take (i + 1))))) := fun m em => by
            refine ⟨same_put (sm4.trans sm5) nB0, ?_, ?_⟩
            · rw [upd_ne nBD]
              exact sm5 _ _ hD4
            · rw [upd_same, take_next hp, bst_snoc, iVs_snoc, em]
              rfl
          have sz : (iVs (bst (pl.take i))).length < sizeLine := by
            rw [iVs_len, bst_len]
            exact small1000 (by omega)
          refine ⟨D2, ahead (tab [] (pl.take i)) p, .int 0, rfl, rfl, SqL.of h5, fun e => ?_, fun m hm hle => ?_⟩
          · exact ⟨1, 0, rfl, rfl, B, _, _, rfl, rfl, sm5 _ _ hB4, sz, _, _, y6, y7, rfl, fin 0 (by rw [e]; rfl)⟩
          · exact ⟨1, m, rfl, rfl, B, _, _, rfl, rfl, sm5 _ _ hB4, sz, _, _, y6, y7, rfl, fin m (mx_of (ahead_pos _ _) hm hle)⟩
      · obtain ⟨y4, y5, y6, y7, rfl, sm3, hD3, hB3⟩ := hP
        rw [iVs_len, List.take_length] at hB3
        have fin : ∀ m : Int, m = mx (bst pl) → Q (.int (((iVs pl).length : Int) - m)) H3 := fun m em => by
          rw [em, iVs_len, show ((pl.length : Int) - mx (bst pl)) = mv old new from emv.symm]
          exact q H3 sm3
        refine ⟨.ref D, rfl, D, _, rfl, .inl (SqL.of hD3), .ref B, rfl, B, bst pl, .int 0, rfl, rfl, SqL.of hB3, fun e => ?_, fun m hm hle => ?_⟩
        · exact ⟨_, 0, rfl, rfl, fin 0 (by rw [e]; rfl)⟩
        · exact ⟨_, m, rfl, rfl, fin m (mx_of (fun y hy => by have := bst_pos pl y hy; omega) hm hle)⟩
end
end M66

set_option Elab.async false
set_option linter.all false
set_option maxRecDepth 100000
set_option maxHeartbeats 4000000
/-! longest -/
namespace M66
open PySem PySem.Spec PyProof.Rows L2 R66
abbrev sLongest : Stmt := topS 8
theorem scG : FnScope ["_law_early", "_law_late", "_law_spots", "_law_best", "_law_at", "_law_spot", "_law_one", "_law_ahead"] ["_law_early", "_law_late"] (defScope sLongest) := ⟨rfl, rfl, rfl, by decide +kernel, rfl, by decide +kernel, by decide +kernel⟩
section
variable {P : Program} {w : World} {K : PySem.W.Frag} {mg : Str → Option Value} {base : Heap}
def spLongest (K : PySem.W.Frag) : Sp := fun vs H Q _ => ∃ (a c : Addr) (old new : List Int), vs = [.ref a, .ref c] ∧ FzT H a (iVs old) ∧ SqT K H c (iVs new) ∧ new.length < 1000 ∧ ∀ H', Same H H' → Q (.int (lis (ixs old new))) H'
theorem ok_longest {f : Addr} {fd : FuncData} {k : Nat} (F : Fun K "_law_longest" "_law_longest" sLongest f fd) (T : Bl mg) : FnOk P w K mg base CX0 (k + 1) f fd ["_law_early", "_law_late"] (spLongest K) := by
  refine F.ok scG (fun vs H Q E h => ?_) (fun cdv A outer s H vs Q E hr h => ?_)
  · obtain ⟨a, c, old, new, rfl, _⟩ := h
    rfl
  · obtain ⟨a, c, old, new, rfl, hO, hN, hlen, q⟩ := h
    refine ⟨_, (pss_cons (ps_asg (pe_tup (pa_cons (pe_lc (own := [("_law_one", 6)]) (g := gName 6) (by rfl) scG.nd (pi_tup (pv 1)) (blkOk_by (own := [("_law_one", 6)]) (N := ["_law_early", "_law_late", "_law_spots", "_law_best", "_law_at", "_law_spot", "_law_one", "_law_ahead"]) (sc := defScope sLongest) (by decide +kernel)) (fun _ _ _ _ _ => (pg_name (i := 6) scG.nd rfl (Or.inl rfl))) (fun _ _ _ _ _ => (pts_one (pt_cmpR (r := rIn K false) op_in_seq (pv 6) (pv 0) (by rfl)))) (fun _ _ _ _ _ => (pe_bmT (r := rIndexT K) PySem.F.slot_tuple_index PySem.F.type_tuple_index mt_indexT (pv 0) (pa_cons (pv 6) pa_nil)))) (pa_cons (pe_lst pa_nil) pa_nil))) (pg_tup rfl (pgs_cons (pg_name (i := 2) scG.nd rfl (Or.inr rfl)) (pgs_cons (pg_name (i := 3) scG.nd rfl (Or.inr rfl)) pgs_nil))))
      (pss_cons (ps_for PassesOwn.never rfl (pi_enum (by rfl) T.enumerate (pa_cons (pv 2) pa_nil)) (pg_tup rfl (pgs_cons (pg_name (i := 4) scG.nd rfl (Or.inl rfl)) (pgs_cons (pg_name (i := 5) scG.nd rfl (Or.inr rfl)) pgs_nil)))
        (pss_one (ps_expr (pe_bm PySem.F.plainAttrs_list PySem.F.slot_list_append PySem.F.type_list_append mt_append (pv 3) (pa_cons (pe_op op_add pe_int (pe_callB (cr_max rfl) (by rfl) T.max (by decide +kernel) (pa_cons (pe_op op_cat (pe_lst (pa_cons pe_int pa_nil)) (pe_lc (own := [("_law_ahead", 7)]) (g := gName 7) (by rfl) scG.nd (pi_range1 (by rfl) T.range (pa_cons (pv 4) pa_nil)) (blkOk_by (own := [("_law_ahead", 7)]) (N := ["_law_early", "_law_late", "_law_spots", "_law_best", "_law_at", "_law_spot", "_law_one", "_law_ahead"]) (sc := defScope sLongest) (by decide +kernel)) (fun _ _ _ _ _ => (pg_name (i := 7) scG.nd rfl (Or.inl rfl))) (fun _ _ _ _ _ => (pts_one (pt_cmpR op_lt (pe_ix (r := rIxL K) ix_list (pv 2) (pv 7) (fun _ _ => rfl)) (pv 5) (nomark _)))) (fun _ _ _ _ _ => (pe_ix (r := rIxL K) ix_list (pv 3) (pv 7) (fun _ _ => rfl))))) pa_nil))) pa_nil)))))
      (pss_one (ps_ret (pe_callB (cr_max rfl) (by rfl) T.max (by decide +kernel) (pa_cons (pe_op op_cat (pe_lst (pa_cons pe_int pa_nil)) (pv 3)) pa_nil)))))), ?_⟩
    -- spots, best = [..], []
    refine ⟨.ref c, rfl, c, rfl, ⟨_, hN⟩, fun D nD => lc_tup (xs := iVs new) (fun i H2 => Same H H2 ∧ H2 D = some (.lst (iVs (ixs old (new.take i))))) ⟨same_new nD, upd_same⟩ (fun i H2 _ h => same_t h.1 hN) (fun i x H2 hx h => ?_) (fun H2 h => ?_)⟩
    · obtain ⟨n, hn, rfl⟩ := atV hx
      obtain ⟨sm, hD⟩ := h
      refine ⟨rfl, .int n, rfl, .ref a, rfl, a, _, rfl, .inr (same_fz sm hO).sq, rfl, flI old, _, rfl, ?_⟩
      rw [take_next hn, ixs_snoc]
      show if inV (.int n) (iVs old) = true then _ else _
      rw [inI]
      refine ite2 (fun e => ?_) (fun e => ?_)
      · have e : n ∈ old := of_decide_eq_true e
        rw [if_pos e]
        refine ⟨.ref a, rfl, ⟨a, _, rfl, same_fz sm hO⟩, .int n, rfl, a, old, n, rfl, rfl, (same_fz sm hO).sq, e, _, hD, ?_, same_put sm nD, ?_⟩
        · rw [List.length_map]
          exact small1000 (Nat.le_trans (ixs_len_le _ _) (by rw [List.length_take]; omega))
        · rw [upd_same, iVs_snoc]
      · have e : n ∉ old := fun z => e (decide_eq_true z)
        rw [if_neg e, List.append_nil]
        exact ⟨sm, hD⟩
    · obtain ⟨sm, hD⟩ := h
      rw [iVs_len, List.take_length] at hD
      have hpl : (ixs old new).length < 1000 := Nat.lt_of_le_of_lt (ixs_len_le old new) hlen
      generalize ixs old new = pl at hD hpl q
      refine ⟨Nat.zero_le _, fun B nB => ⟨by show 2 ≤ sizeLine; decide, fun U nU => ⟨U, _, rfl, SqT.of upd_same, rfl, _, _, rfl, _, _, rfl, rfl, ?_⟩⟩⟩
      have nBD : D ≠ B := ne_of_none hD nB
      have nB0 : H B = none := sm.free nB
      have hD1 : (upd H2 B (.lst [])) D = some (.lst (iVs pl)) := by
        rw [upd_ne nBD]
        exact hD
      have hB1 : (upd H2 B (.lst [])) B = some (.lst []) := upd_same
      have hD2 := same_new (o := .tup [.ref D, .ref B]) nU _ _ hD1
      have hB2 := same_new (o := .tup [.ref D, .ref B]) nU _ _ hB1
      have sm2 : Same H (upd (upd H2 B (.lst [])) U (.tup [.ref D, .ref B])) := (sm.trans (same_new nB)).trans (same_new nU)
      generalize upd (upd H2 B (.lst [])) U (.tup [.ref D, .ref B]) = H2 at hD2 hB2 sm2
      refine ⟨.ref D, rfl, D, iVs pl, rfl, SqL.of hD2, for_it (walk_enum (K := K) (a := D) (xs := iVs pl)) (fun i σ H3 => ∃ y4 y5 y6 y7, σ = [some (.ref a), some (.ref c), some (.ref D), some (.ref B), y4, y5, y6, y7] ∧ Same H H3 ∧ H3 D = some (.lst (iVs pl)) ∧ H3 B = some (.lst (iVs (bst (pl.take i)))))
        ⟨none, none, none, none, rfl, sm2, hD2, hB2⟩ (fun i σ H3 _ ⟨_, _, _, _, _, _, hd, _⟩ => SqL.of hd) (fun i x σ H3 H4 hi hP hY => ?_) (fun σ H3 hP => ?_)⟩
      · obtain ⟨y4, y5, y6, y7, rfl, sm3, hD3, hB3⟩ := hP
        obtain ⟨t, x1, x2, rfl, nt, rfl, e1, e2⟩ := hY
        obtain ⟨p, hp, rfl⟩ := atV e2
        have e1 : x1 = .int (i : Nat) := (Option.some.inj e1).symm
        subst e1
        have hi : i < pl.length := by
          rw [List.length_map] at hi
          exact hi
        refine ⟨t, _, rfl, SqT.of upd_same, rfl, _, _, rfl, _, _, rfl, rfl, ?_⟩
        have hD4 := same_new (o := .tup [.int (i : Nat), .int p]) nt _ _ hD3
        have hB4 := same_new (o := .tup [.int (i : Nat), .int p]) nt _ _ hB3
        have sm4 : Same H (upd H3 t (.tup [.int (i : Nat), .int p])) := sm3.trans (same_new nt)
        generalize upd H3 t (.tup [.int (i : Nat), .int p]) = H4 at hD4 hB4 sm4
        have hti : (pl.take i).length = i := by
          rw [List.length_take]
          omega
        refine ⟨.ref B, rfl, .inl ⟨rfl, _, SqL.of hB4⟩, by show 1 ≤ sizeLine; decide, fun Z nZ => ⟨.int (i : Nat), rfl, (i : Int), rfl, by omega, by omega, fun D2 nD2 => ?_⟩⟩
        have hD5 := same_new (o := .lst [.int 0]) nZ _ _ hD4
        have hB5 := same_new (o := .lst [.int 0]) nZ _ _ hB4
        have sm5 : Same H (upd H4 Z (.lst [.int 0])) := sm4.trans (same_new nZ)
        have hZ5 : (upd H4 Z (.lst [.int 0])) Z = some (.lst (iVs [0])) := upd_same
        generalize upd H4 Z (.lst [.int 0]) = H5 at hD5 hB5 sm5 hZ5 nD2
        refine lc_range (lo := 0) (n := (i : Int).toNat) (fun j H6 => Same H5 H6 ∧ H6 D2 = some (.lst (iVs (ahead ((tab [] (pl.take i)).take j) p)))) ⟨same_new nD2, upd_same⟩ (fun j H6 hj hP => ?_) (fun H6 hP => ?_)
        · obtain ⟨sm6, h6⟩ := hP
          have hj : j < (pl.take i).length := by omega
          obtain ⟨b, t1, t2, t3⟩ := tab_at (pl.take i) j hj
          have t0 : pl[j]? = some (pl.take i)[j] := by
            rw [List.getElem?_take_of_lt (by omega)] at t1
            exact t1
          rw [Int.zero_add]
          refine ⟨rfl, .ref D, rfl, .int (j : Nat), rfl, D, _, (j : Nat), _, rfl, rfl, SqL.of (sm6 _ _ hD5), atI_nat (iVs_at t0), .int p, rfl, _, p, rfl, rfl, _, rfl, ?_⟩
          rw [List.take_add_one, t3]
          show if decide ((pl.take i)[j] < p) = true then _ else _
          refine ite2 (fun e => ?_) (fun e => ?_)
          · have e : (pl.take i)[j] < p := of_decide_eq_true e
            refine ⟨.ref B, rfl, .int (j : Nat), rfl, B, _, (j : Nat), _, rfl, rfl, SqL.of (sm6 _ _ hB5), atI_nat (iVs_at t2), _, h6, ?_, same_put sm6 nD2, ?_⟩
            · rw [iVs_len]
              exact small1000 (Nat.le_trans (ahead_len _ _) (by rw [List.length_take, tab_len]; omega))
            · rw [upd_same]
              show _ = some (HO.lst (iVs (ahead ((tab [] (pl.take i)).take j ++ [((pl.take i)[j], b)]) p)))
              rw [ahead_snoc, if_pos e, iVs_snoc]
          · have e : ¬ (pl.take i)[j] < p := fun z => e (decide_eq_true z)
            refine ⟨sm6, ?_⟩
            show _ = some (HO.lst (iVs (ahead ((tab [] (pl.take i)).take j ++ [((pl.take i)[j], b)]) p)))
            rw [ahead_snoc, if_neg e, List.append_nil]
            exact h6
        · obtain ⟨sm6, h6⟩ := hP
          rw [Int.toNat_natCast, List.take_of_length_le (by rw [tab_len]; omega)] at h6
          have hal := ahead_len (tab [] (pl.take i)) p
          rw [tab_len] at hal
          refine ⟨Z, D2, _, _, rfl, rfl, sm6 _ _ hZ5, h6, ?_, fun M nM => ?_⟩
          · rw [iVs_len, iVs_len]
            exact Nat.le_of_lt (small1000 (by show 1 + _ ≤ 1000; omega))
          · refine ⟨M, 0 :: ahead (tab [] (pl.take i)) p, rfl, SqL.of upd_same, Nat.succ_pos _, fun m hm hle => ?_⟩
            have em := mx_of0 hm hle
            have smM := same_new (o := .lst (iVs [0] ++ iVs (ahead (tab [] (pl.take i)) p))) nM
            have sz : (iVs (bst (pl.take i))).length < sizeLine := by
              rw [iVs_len, bst_len]
              exact small1000 (by omega)
            refine ⟨1, m, rfl, rfl, B, _, _, rfl, rfl, smM _ _ (sm6 _ _ hB5), sz, _, _, y6, y7, rfl, same_put ((sm5.trans sm6).trans smM) nB0, ?_, ?_⟩
            · rw [upd_ne nBD]
              exact smM _ _ (sm6 _ _ hD5)
            · rw [upd_same, take_next hp, bst_snoc, iVs_snoc, em]
              rfl
      · obtain ⟨y4, y5, y6, y7, rfl, sm3, hD3, hB3⟩ := hP
        rw [iVs_len, List.take_length] at hB3
        refine ⟨by show 1 ≤ sizeLine; decide, fun Z nZ => ⟨.ref B, rfl, Z, B, iVs [0], _, rfl, rfl, upd_same, same_new nZ _ _ hB3, ?_, fun M nM => ?_⟩⟩
        · rw [iVs_len, iVs_len, bst_len]
          exact Nat.le_of_lt (small1000 (by show 1 + _ ≤ 1000; omega))
        · refine ⟨M, 0 :: bst pl, rfl, SqL.of upd_same, Nat.succ_pos _, fun m hm hle => ?_⟩
          have em : m = lis pl := mx_of0 hm hle
          rw [em]
          exact q _ ((sm3.trans (same_new nZ)).trans (same_new nM))
end
end M66

set_option Elab.async false
set_option linter.all false
set_option maxRecDepth 100000
set_option maxHeartbeats 4000000
/-! most_kept -/
namespace M66
open PySem PySem.Spec PyProof.Rows L2 R66
abbrev sMost : Stmt := topS 7
theorem scK : FnScope ["_law_early", "_law_late", "_law_both", "_law_best", "_law_lot", "_law_spots", "_law_one", "_law_at"] ["_law_early", "_law_late"] (defScope sMost) := ⟨rfl, rfl, rfl, by decide +kernel, rfl, by decide +kernel, by decide +kernel⟩
def both (old new : List Int) : List Int := new.filter fun x => decide (x ∈ old)
theorem both_snoc (old a : List Int) (n : Int) : both old (a ++ [n]) = both old a ++ (if n ∈ old then [n] else []) := by
  unfold both
  rw [List.filter_append]
  by_cases e : n ∈ old <;> simp [List.filter, e]
theorem both_len (old a : List Int) : (both old a).length ≤ a.length := List.length_filter_le _ _
theorem both_mem {old a : List Int} {n : Int} (h : n ∈ both old a) : n ∈ old := of_decide_eq_true (List.mem_filter.mp h).2
theorem both_ixs (old a : List Int) : (both old a).map (fun x => (old.idxOf x : Int)) = ixs old a := rfl
theorem pick_snoc : ∀ (a : List Int) (n : Nat) (p : Int), pick n (a ++ [p]) = pick n a ++ (if n / 2 ^ a.length % 2 = 1 then [p] else [])
  | [], n, p => by
    show pick n [p] = [] ++ (if n / 1 % 2 = 1 then [p] else [])
    rw [Nat.div_one]
    unfold pick
    split <;> rfl
  | x :: r, n, p => by
    have ih := pick_snoc r (n / 2) p
    have e : n / 2 / 2 ^ r.length = n / 2 ^ (x :: r).length := by
      rw [Nat.div_div_eq_div_mul, List.length_cons, Nat.pow_succ, Nat.mul_comm]
    rw [e] at ih
    show pick n (x :: (r ++ [p])) = pick n (x :: r) ++ _
    unfold pick
    split
    · rw [ih]
      rfl
    · exact ih
theorem pick_len (n : Nat) (a : List Int) : (pick n a).length ≤ a.length := (pick_sub n a).length_le
theorem sorted_iff {a b : List Int} (p : b.Perm a) (r : b.Pairwise (· ≤ ·)) : decide (a = b) = decide (a.Pairwise (· ≤ ·)) := by
  by_cases e : a.Pairwise (· ≤ ·)
  · rw [decide_eq_true e, decide_eq_true (p.symm.eq_of_pairwise (fun x y _ _ h1 h2 => Int.le_antisymm h1 h2) e r)]
  · rw [decide_eq_false e, decide_eq_false fun z : a = b => e (by rw [z]; exact r)]
theorem bit_one (lot i : Nat) : Builtin.bitAnd ((lot : Int) / 2 ^ (((i : Nat) : Int).toNat)) 1 = ((lot / 2 ^ i % 2 : Nat) : Int) := by
  rw [Int.toNat_natCast]
  have e : (lot : Int) / 2 ^ i = ((lot / 2 ^ i : Nat) : Int) := by
    rw [Int.natCast_ediv]
    congr 1
  rw [e]
  have := Bits.bitAnd_mask (x := ((lot / 2 ^ i : Nat) : Int)) 1 (Int.natCast_nonneg _)
  rw [show (2 : Int) ^ 1 - 1 = 1 by decide] at this
  rw [this]
  show ((lot / 2 ^ i : Nat) : Int) % 2 = _
  omega
section
variable {P : Program} {w : World} {K : PySem.W.Frag} {mg : Str → Option Value} {base : Heap}
def spMost (K : PySem.W.Frag) : Sp := fun vs H Q _ => ∃ (a c : Addr) (old new : List Int), vs = [.ref a, .ref c] ∧ SqL K H a (iVs old) ∧ SqL K H c (iVs new) ∧ new.length < 8 ∧ ∀ H', Same H H' → Q (.int (mostOf (ixs old new) (2 ^ (ixs old new).length))) H'
theorem ok_most {f : Addr} {fd : FuncData} {k : Nat} (F : Fun K "_law_most_kept" "_law_most_kept" sMost f fd) (T : Bl mg) : FnOk P w K mg base CX0 (k + 1) f fd ["_law_early", "_law_late"] (spMost K) := by
  refine F.ok scK (fun vs H Q E h => ?_) (fun cdv A outer s H vs Q E hr h => ?_)
  · obtain ⟨a, c, old, new, rfl, _⟩ := h
    rfl
  · obtain ⟨a, c, old, new, rfl, hO, hN, hlen, q⟩ := h
    refine ⟨_, (pss_cons (ps_par (i := 2) (j := 3) (by rfl) scK.nd rfl rfl (by decide) rfl rfl (pa_cons (pe_lc (own := [("_law_one", 6)]) (g := gName 6) (by rfl) scK.nd (pi_list (pv 1)) (blkOk_by (own := [("_law_one", 6)]) (N := ["_law_early", "_law_late", "_law_both", "_law_best", "_law_lot", "_law_spots", "_law_one", "_law_at"]) (sc := defScope sMost) (by decide +kernel)) (fun _ _ _ _ _ => (pg_name (i := 6) scK.nd rfl (Or.inl rfl))) (fun _ _ _ _ _ => (pts_one (pt_cmpR (r := rIn K false) op_in_seq (pv 6) (pv 0) (by rfl)))) (fun _ _ _ _ _ => (pv 6))) (pa_cons pe_int pa_nil)) (by rfl))
      (pss_cons (ps_for PassesOwn.never rfl (pi_range1 (by rfl) T.range (pa_cons (pe_op op_shl pe_int (pe_callB call_len_seq (by rfl) T.len (by decide +kernel) (pa_cons (pv 2) pa_nil))) pa_nil)) (pg_name (i := 4) scK.nd rfl (Or.inr rfl))
        (pss_cons (ps_setLc (i := 5) (own := [("_law_at", 7), ("_law_one", 6)]) (g := gTup K 2 (gCons (gName 7) (gCons (gName 6) gNil))) (by rfl) scK.nd rfl rfl (sw_true rfl rfl rfl (by decide +kernel)) (pi_enum (by rfl) T.enumerate (pa_cons (pv 2) pa_nil)) (blkOk_by (own := [("_law_at", 7), ("_law_one", 6)]) (N := ["_law_early", "_law_late", "_law_both", "_law_best", "_law_lot", "_law_spots", "_law_one", "_law_at"]) (sc := defScope sMost) (by decide +kernel)) (fun _ _ _ _ _ => (pg_tup rfl (pgs_cons (pg_name (i := 7) scK.nd rfl (Or.inl rfl)) (pgs_cons (pg_name (i := 6) scK.nd rfl (Or.inl rfl)) pgs_nil)))) (fun _ _ _ _ _ => (pts_one (pt_cmpR op_eq (pe_op op_and (pe_op op_shr (pv 4) (pv 7)) pe_int) pe_int (nomark _)))) (fun _ _ _ _ _ => (pe_bmK (K := K) rfl (pe_bm PySem.F.plainAttrs_list PySem.F.slot_list_index PySem.F.type_list_index (r := rIndex K) mt_index (pv 0) (pa_cons (pv 6) pa_nil)))))
        (pss_one (ps_if (pt_cmpR (op_eqD hr.units) (pv 5) (pe_callB cr_sortedI (by rfl) T.sorted (by decide +kernel) (pa_cons (pv 5) pa_nil)) (nomark _))
          (pss_one (ps_set (i := 3) scK.nd rfl (Or.inl rfl) (pe_callB (call_max2 rfl) (by rfl) T.max (by decide +kernel) (pa_cons (pv 3) (pa_cons (pe_callB call_len_seq (by rfl) T.len (by decide +kernel) (pa_cons (pv 5) pa_nil)) pa_nil)))))
          pss_nil))))
      (pss_one (ps_ret (pv 3))))), ?_⟩
    refine ⟨.ref c, rfl, c, rfl, ⟨_, hN⟩, fun D nD => lc_list (xs := iVs new) (fun i H2 => Same H H2 ∧ H2 D = some (.lst (iVs (both old (new.take i))))) ⟨same_new nD, upd_same⟩ (fun i H2 _ h => h.1.seq hN) (fun i x H2 hx h => ?_) (fun H2 h => ?_)⟩
    · obtain ⟨n, hn, rfl⟩ := atV hx
      obtain ⟨sm, hD⟩ := h
      refine ⟨rfl, .int n, rfl, .ref a, rfl, a, _, rfl, .inl (sm.seq hO), rfl, flI old, _, rfl, ?_⟩
      rw [take_next hn, both_snoc]
      show if inV (.int n) (iVs old) = true then _ else _
      rw [inI]
      refine ite2 (fun e => ?_) (fun e => ?_)
      · have e : n ∈ old := of_decide_eq_true e
        rw [if_pos e]
        refine ⟨.int n, rfl, _, hD, ?_, same_put sm nD, ?_⟩
        · rw [iVs_len]
          exact small1000 (Nat.le_trans (both_len _ _) (by rw [List.length_take]; omega))
        · rw [upd_same, iVs_snoc]
      · have e : n ∉ old := fun z => e (decide_eq_true z)
        rw [if_neg e, List.append_nil]
        exact ⟨sm, hD⟩
    · obtain ⟨sm, hD⟩ := h
      rw [iVs_len, List.take_length] at hD
      have hbl : (both old new).length < 8 := Nat.lt_of_le_of_lt (both_len old new) hlen
      have hbm : ∀ n ∈ both old new, n ∈ old := fun n hn => both_mem hn
      rw [← both_ixs] at q
      rw [List.length_map] at q
      generalize both old new = bo at hD hbl hbm q
      have hpw : 2 ^ bo.length ≤ 2 ^ 8 := Nat.pow_le_pow_right (by decide) (by omega)
      have esz : ((1 : Int) * 2 ^ (((iVs bo).length : Int)).toNat) = ((2 ^ bo.length : Nat) : Int) := by
        rw [iVs_len, Int.toNat_natCast, Int.one_mul]
        exact (Int.natCast_pow 2 _).symm
      have big : (2 : Int) ^ 62 = 4611686018427387904 := by decide
      refine ⟨_, _, rfl, .ref D, rfl, D, _, rfl, .inl (SqL.of hD), 1, _, rfl, rfl, ⟨by omega, by rw [iVs_len]; omega, by decide⟩, ((2 ^ bo.length : Nat) : Int), ?_, Int.le_trans (by decide) (Int.natCast_nonneg _), by omega, ?_⟩
      · show [V.int ((1 : Int) * 2 ^ (((iVs bo).length : Int)).toNat)] = _
        rw [esz]
      · refine for_range (lo := 0) (n := 2 ^ bo.length) (fun i σ H3 => ∃ y4 y5 y6 y7, σ = [some (.ref a), some (.ref c), some (.ref D), some (.int (mostOf (bo.map fun x => (old.idxOf x : Int)) i)), y4, y5, y6, y7] ∧ Same H H3 ∧ H3 D = some (.lst (iVs bo)))
          ?_ (fun lot σ H3 hlot hP => ?_) (fun σ H3 hP => ?_)
        · exact ⟨none, none, none, none, rfl, sm, hD⟩
        · obtain ⟨y4, y5, y6, y7, rfl, sm3, hD3⟩ := hP
          rw [Int.zero_add]
          refine ⟨.ref D, rfl, D, iVs bo, rfl, SqL.of hD3, fun S nS => ?_⟩
          refine lc_it (walk_enum (K := K) (a := D) (xs := iVs bo)) (fun i H5 => Same H3 H5 ∧ H5 S = some (.lst (iVs (pick lot ((bo.take i).map fun x => (old.idxOf x : Int)))))) ⟨same_new nS, upd_same⟩ (fun i H5 _ h => SqL.of (h.1 _ _ hD3)) (fun i x H5 H6 hi hP hY => ?_) (fun H5 hP => ?_)
          · obtain ⟨sm5, h5⟩ := hP
            obtain ⟨t, x1, x2, rfl, nt, rfl, e1, e2⟩ := hY
            obtain ⟨n, hn, rfl⟩ := atV e2
            have e1 : x1 = .int (i : Nat) := (Option.some.inj e1).symm
            subst e1
            have hi : i < bo.length := by
              rw [iVs_len] at hi
              exact hi
            have hti : (bo.take i).length = i := by
              rw [List.length_take]
              omega
            have smt := same_new (o := .tup [.int (i : Nat), .int n]) nt
            refine ⟨t, _, rfl, SqT.of upd_same, rfl, _, _, rfl, _, _, rfl, rfl, rfl, .int (lot : Nat), rfl, .int (i : Nat), rfl, _, _, rfl, rfl, by omega, _, 1, rfl, rfl, rfl, _, rfl, ?_⟩
            have key : (bo.take (i + 1)).map (fun x => (old.idxOf x : Int)) = (bo.take i).map (fun x => (old.idxOf x : Int)) ++ [(old.idxOf n : Int)] := by
              rw [take_next hn, List.map_append]
              rfl
            rw [key, pick_snoc, List.length_map, hti]
            have bo1 := bit_one lot i
            have hno : n ∈ old := hbm n (List.mem_of_getElem? hn)
            refine ite2 (fun e => ?_) (fun e => ?_)
            · have e := V.int.inj (of_decide_eq_true e)
              have e2 : ((lot / 2 ^ i % 2 : Nat) : Int) = 1 := bo1.symm.trans e
              rw [if_pos (by omega)]
              have hO4 : SqL K (upd H5 t (.tup [.int (i : Nat), .int n])) a (iVs old) := smt.seq (sm5.seq (sm3.seq hO))
              have hlt := List.idxOf_lt_length_iff.mpr hno
              refine ⟨.ref a, rfl, .inl ⟨rfl, _, hO4⟩, .int n, rfl, a, iVs old, .int n, old.idxOf n, .int n, rfl, rfl, hO4, rfl, flI old, ?_, by show (n == n) = true; exact beq_self_eq_true n, fun m z hm hz => ?_, _, smt _ _ h5, ?_, same_put (sm5.trans smt) nS, ?_⟩
              · refine iVs_at ?_
                rw [List.getElem?_eq_getElem hlt, List.getElem_idxOf]
              · obtain ⟨z', hz', rfl⟩ := atV hz
                obtain ⟨hm2, hz2⟩ := List.getElem?_eq_some_iff.mp hz'
                have := idx_ahead old n m hm2 hm
                rw [hz2] at this
                show (z' == n) = false
                exact beq_eq_false_iff_ne.mpr this
              · rw [iVs_len]
                exact small1000 (Nat.le_trans (pick_len _ _) (by rw [List.length_map]; omega))
              · rw [upd_same, iVs_snoc]
            · have e2 : ¬ lot / 2 ^ i % 2 = 1 := fun z => e (decide_eq_true (by
                show V.int (Builtin.bitAnd ((lot : Int) / 2 ^ (((i : Nat) : Int).toNat)) 1) = .int 1
                rw [bo1, z]
                rfl))
              rw [if_neg e2, List.append_nil]
              exact ⟨sm5.trans smt, smt _ _ h5⟩
          · obtain ⟨sm5, h5⟩ := hP
            rw [iVs_len, List.take_length] at h5
            have hpk : (pick lot (bo.map fun x => (old.idxOf x : Int))).length < 8 := Nat.lt_of_le_of_lt (pick_len _ _) (by rw [List.length_map]; exact hbl)
            have mo : mostOf (bo.map fun x => (old.idxOf x : Int)) (lot + 1) = if (pick lot (bo.map fun x => (old.idxOf x : Int))).Pairwise (· ≤ ·) then max (mostOf (bo.map fun x => (old.idxOf x : Int)) lot) (pick lot (bo.map fun x => (old.idxOf x : Int))).length else mostOf (bo.map fun x => (old.idxOf x : Int)) lot := rfl
            rw [mo]
            generalize pick lot (bo.map fun x => (old.idxOf x : Int)) = sp at h5 hpk
            generalize mostOf (bo.map fun x => (old.idxOf x : Int)) lot = best
            refine ⟨.ref S, rfl, .ref S, rfl, S, sp, rfl, SqL.of h5, fun srt M perm rise nM => ?_⟩
            have hS6 := same_new (o := .lst (iVs srt)) nM _ _ h5
            have sm6 : Same H3 (upd H5 M (.lst (iVs srt))) := sm5.trans (same_new nM)
            refine ⟨_, _, Dp.lst (SqL.of hS6) (dpI _ _ sp), Dp.lst (SqL.of upd_same) (dpI _ _ srt), shI sp, shI srt, ?_⟩
            rw [eqL, sorted_iff perm rise]
            refine ⟨_, rfl, ite2 (fun e => ?_) (fun e => ?_)⟩
            · have e := of_decide_eq_true e
              rw [if_pos e]
              have em : (if ((iVs sp).length : Int) > best then ((iVs sp).length : Int) else best) = max best sp.length := by
                rw [iVs_len]
                split <;> omega
              refine ⟨_, rfl, .ref S, rfl, S, _, rfl, .inl (SqL.of hS6), best, _, rfl, ?_⟩
              rw [em]
              exact ⟨_, _, _, _, rfl, sm3.trans sm6, sm6 _ _ hD3⟩
            · have e : ¬ sp.Pairwise (· ≤ ·) := fun z => e (decide_eq_true z)
              rw [if_neg e]
              exact ⟨_, _, _, _, rfl, sm3.trans sm6, sm6 _ _ hD3⟩
        · obtain ⟨y4, y5, y6, y7, rfl, sm3, hD3⟩ := hP
          exact ⟨_, rfl, q H3 sm3⟩
end
end M66

set_option Elab.async false
set_option linter.all false
set_option maxRecDepth 100000
set_option maxHeartbeats 8000000
/-! the law -/
namespace M66
open PySem PySem.Spec PyProof.Rows L2 R66
abbrev sLaw : Stmt := topS 9
theorem scL : FnScope ["_law_script", "_law_k", "_law_box_here", "_law_turn", "_law_early", "_law_late", "_law_due", "_law_both", "_law_told", "_law_one"] ["_law_script"] (defScope sLaw) := ⟨rfl, rfl, rfl, by decide +kernel, rfl, by decide +kernel, by decide +kernel⟩
theorem off_seq {K : PySem.W.Frag} {H H' : Hp} {a b : Addr} {xs : List V} (h0 : H b = none) (off : Off b H H') (h : SqL K H a xs) : SqL K H' a xs := by
  rcases h with (h | ⟨o, h⟩) | h
  · exact .inl (.inl (off _ _ (ne_of_none h h0) h))
  · exact .inl (.inr ⟨o, off _ _ (ne_of_none h h0) h⟩)
  · exact .inr h
theorem Same.off {H H' : Hp} (b : Addr) (x : Same H H') : Off b H H' := fun a o _ h => x a o h
theorem Same.box {H H' : Hp} {b : Addr} {n : Nat} (x : Same H H') (h : Box H b n) : Box H' b n := by
  obtain ⟨o, m, c, h1, h2⟩ := h
  exact ⟨o, m, c, x _ _ h1, h2⟩
theorem int_eq {Q : V → Hp → Prop} {x y : Int} {H : Hp} (e : x = y) (h : Q (.int y) H) : Q (.int x) H := by
  rw [e]
  exact h
theorem rg_ints (n : Nat) : rgV 0 (n : Int) = iVs ((List.range n).map fun i : Nat => (i : Int)) := by
  unfold rgV
  rw [show ((n : Int) - 0).toNat = n by omega]
  rw [iVs, List.map_map]
  refine List.map_congr_left fun i _ => ?_
  show V.int (0 + (i : Int)) = V.int (i : Int)
  rw [Int.zero_add]
/-- the ints 0 .. n - 1 -/
abbrev upTo (n : Nat) : List Int := (List.range n).map fun i : Nat => (i : Int)
theorem upTo_nodup (n : Nat) : (upTo n).Nodup := List.pairwise_map.mpr (List.nodup_range.imp fun {a b} h e => h (by omega))
theorem upTo_lt {n : Nat} {x : Int} (h : x ∈ upTo n) : x < n := by
  obtain ⟨i, hi, rfl⟩ := List.mem_map.mp h
  have := List.mem_range.mp hi
  omega
/-- what the law asks of two lists -/
structure Two (early late : List Int) : Prop where
  nd : early.Nodup
  nl : late.Nodup
  le : early.length ≤ 12
  ll : late.length ≤ 14
theorem two_of {early late sub new : List Int} {n : Nat} (hn : n ≤ 12) (pe : early.Perm (upTo n)) (hs : sub.Sublist early) (hw : new = [] ∨ new = [20] ∨ new = [20, 30]) (pl : late.Perm (sub ++ new)) : Two early late := by
  have nd : early.Nodup := pe.nodup_iff.mpr (upTo_nodup n)
  have le : early.length = n := by
    rw [pe.length_eq]
    simp
  have ls := hs.length_le
  have nw : new.Nodup := by rcases hw with rfl | rfl | rfl <;> decide
  have lw : new.length ≤ 2 := by rcases hw with rfl | rfl | rfl <;> decide
  refine ⟨nd, pl.nodup_iff.mpr (List.nodup_append.mpr ⟨nd.sublist hs, nw, fun x hx y hy e => ?_⟩), by omega, ?_⟩
  · subst e
    have := upTo_lt (pe.mem_iff.mp (hs.subset hx))
    have : (20 : Int) ≤ x := by
      rcases hw with rfl | rfl | rfl
      · cases hy
      · have : x = 20 := by simpa using hy
        omega
      · have : x = 20 ∨ x = 30 := by simpa using hy
        omega
    omega
  · rw [pl.length_eq, List.length_append]
    omega
theorem mv_le {old new : List Int} (h : new.length ≤ 14) : (mv old new).natAbs.log2 < 1920 := by
  have h1 := ixs_len_le old new
  have h2 : 0 ≤ lis (ixs old new) := mx_nn _
  obtain ⟨l, h3, _, h4⟩ := lis_le (ixs old new)
  have h5 := h3.length_le
  have : (mv old new).natAbs < 2 ^ 5 := by
    unfold mv
    omega
  exact Nat.lt_of_le_of_lt (Nat.le_of_lt_succ (Nat.lt_succ_of_lt (PySem.Flt.log2_lt_of (by decide) this))) (by decide)
section
variable {P : Program} {w : World} {K : PySem.W.Frag} {mg : Str → Option Value} {base : Heap}
/-- f(new = n, old = o) -/
def gK : List V → List V → List V
  | [], [n, o] => [o, n]
  | _, _ => []
def gKv : List Value → List Value → List Value
  | [], [n, o] => [o, n]
  | _, _ => []
theorem gK_rel : ∀ {vs : List V} {us : List Value} {zs : List V} {ws : List Value}, Vals vs us → Vals zs ws → Vals (gK vs zs) (gKv us ws)
  | _, _, _, _, .cons _ _, _ => .nil
  | _, _, _, _, .nil, .nil => .nil
  | _, _, _, _, .nil, .cons _ .nil => .nil
  | _, _, _, _, .nil, .cons p (.cons q .nil) => .cons q (.cons p .nil)
  | _, _, _, _, .nil, .cons _ (.cons _ (.cons _ _)) => .nil
def spLaw (K : PySem.W.Frag) : Sp := fun vs H Q _ => ∃ (a : Addr) (ns : List Int), vs = [.ref a] ∧ SqL K H a (ns.map V.int) ∧ ns.length ≤ 63 ∧ ∀ H', Q (.bl true) H'
theorem ok_law {f : Addr} {fd : FuncData} (F : Fun K "law" "law" sLaw f fd) (T : Bl mg) (d_box : Dn P w K mg base "_law_box" 1 ["_law_script", "_law_k"] (spBox K)) (d_take : Dn P w K mg base "_law_take" 1 ["_law_box_here", "_law_many"] spTake)
    (d_of : Dn P w K mg base "_law_of" 2 ["_law_box_here", "_law_some"] spOf) (d_stirred : Dn P w K mg base "_law_stirred" 3 ["_law_box_here", "_law_some"] spStirred) (d_moves : Dn P w K mg base "moves" 1 ["old", "new"] (spMoves K))
    (d_longest : Dn P w K mg base "_law_longest" 1 ["_law_early", "_law_late"] (spLongest K)) (d_most_kept : Dn P w K mg base "_law_most_kept" 1 ["_law_early", "_law_late"] (spMost K)) (kbM : KBinds K d_moves.fd ["old", "new"] ["new", "old"] gKv gK) :
    FnOk P w K mg base CX0 4 f fd ["_law_script"] (spLaw K) := by
  refine F.ok scL (fun vs H Q E h => ?_) (fun cdv A outer s H vs Q E hr h => ?_)
  · obtain ⟨a, ns, rfl, _⟩ := h
    rfl
  · obtain ⟨a, ns, rfl, hS, hlen, q⟩ := h
    refine ⟨_, (pss_cons (ps_for PassesOwn.never rfl (pi_range1 (by rfl) T.range (pa_cons (pe_op op_add pe_int (pe_callB (call_min2 rfl) (by rfl) T.min (by decide +kernel) (pa_cons pe_int (pa_cons (pe_callB call_len_seq (by rfl) T.len (by decide +kernel) (pa_cons (pv 0) pa_nil)) pa_nil)))) pa_nil)) (pg_name (i := 1) scL.nd rfl (Or.inl rfl))
        (pss_cons (ps_set (i := 2) scL.nd rfl (Or.inr rfl) (pe_call d_box.ok (hr.mono (by decide)) (by rfl) d_box.g d_box.kp d_box.b .nil pass0 (pa_cons (pv 0) (pa_cons (pv 1) pa_nil))))
        (pss_one (ps_for PassesOwn.never rfl (pi_range1 (by rfl) T.range (pa_cons pe_int pa_nil)) (pg_name (i := 3) scL.nd rfl (Or.inl rfl))
          (pss_cons (ps_set (i := 4) scL.nd rfl (Or.inr rfl) (pe_call d_stirred.ok (hr.mono (by decide)) (by rfl) d_stirred.g d_stirred.kp d_stirred.b .nil pass0 (pa_cons (pv 2) (pa_cons (pe_listRg rfl (by rfl) T.list (prg_1 (by rfl) T.range (pe_call d_of.ok (hr.mono (by decide)) (by rfl) d_of.g d_of.kp d_of.b .nil pass0 (pa_cons (pv 2) (pa_cons (pe_lst (pa_cons pe_int (pa_cons pe_int (pa_cons pe_int pa_nil)))) pa_nil))))) pa_nil))))
          (pss_cons (ps_set (i := 5) scL.nd rfl (Or.inl rfl) (pe_call d_stirred.ok (hr.mono (by decide)) (by rfl) d_stirred.g d_stirred.kp d_stirred.b .nil pass0 (pa_cons (pv 2) (pa_cons (pe_op op_cat (pe_lc (own := [("_law_one", 9)]) (g := gName 9) (by rfl) scL.nd (pi_list (pv 4)) (blkOk_by (own := [("_law_one", 9)]) (N := ["_law_script", "_law_k", "_law_box_here", "_law_turn", "_law_early", "_law_late", "_law_due", "_law_both", "_law_told", "_law_one"]) (sc := defScope sLaw) (by decide +kernel)) (fun _ _ _ _ _ => (pg_name (i := 9) scL.nd rfl (Or.inl rfl))) (fun _ _ _ _ _ => (pts_one (pt_cmpR op_gt (pe_call d_take.ok (hr.mono (by decide)) (by rfl) d_take.g d_take.kp d_take.b .nil pass0 (pa_cons (pv 2) (pa_cons pe_int pa_nil))) pe_int (nomark _)))) (fun _ _ _ _ _ => (pv 9))) (pe_slice sl_list (pe_lst (pa_cons pe_int (pa_cons pe_int pa_nil))) po_none (po_some (pe_call d_take.ok (hr.mono (by decide)) (by rfl) d_take.g d_take.kp d_take.b .nil pass0 (pa_cons (pv 2) (pa_cons pe_int pa_nil)))))) pa_nil))))
          (pss_cons (ps_set (i := 6) scL.nd rfl (Or.inl rfl) (pe_op op_sub (pe_callB call_len_seq (by rfl) T.len (by decide +kernel) (pa_cons (pe_lc (own := [("_law_one", 9)]) (g := gName 9) (by rfl) scL.nd (pi_list (pv 5)) (blkOk_by (own := [("_law_one", 9)]) (N := ["_law_script", "_law_k", "_law_box_here", "_law_turn", "_law_early", "_law_late", "_law_due", "_law_both", "_law_told", "_law_one"]) (sc := defScope sLaw) (by decide +kernel)) (fun _ _ _ _ _ => (pg_name (i := 9) scL.nd rfl (Or.inl rfl))) (fun _ _ _ _ _ => (pts_one (pt_cmpR (r := rIn K false) op_in_seq (pv 9) (pv 4) (by rfl)))) (fun _ _ _ _ _ => (pv 9))) pa_nil)) (pe_call d_longest.ok (hr.mono (by decide)) (by rfl) d_longest.g d_longest.kp d_longest.b .nil pass0 (pa_cons (pe_callTy call_tupleF (by rfl) T.tuple (by decide +kernel) (pa_cons (pv 4) pa_nil)) (pa_cons (pe_callTy call_tupleF (by rfl) T.tuple (by decide +kernel) (pa_cons (pv 5) pa_nil)) pa_nil)))))
          (pss_cons (ps_if (PW.pt (pw_or (pt_cmpR op_ne (pe_callB SkE.call_repr_int (by rfl) T.repr (by decide +kernel) (pa_cons (pe_call d_moves.ok (hr.mono (by decide)) (by rfl) d_moves.g d_moves.kp d_moves.b .nil pass0 (pa_cons (pe_callTy call_tupleF (by rfl) T.tuple (by decide +kernel) (pa_cons (pv 4) pa_nil)) (pa_cons (pe_callTy call_tupleF (by rfl) T.tuple (by decide +kernel) (pa_cons (pv 5) pa_nil)) pa_nil))) pa_nil)) (pe_callB SkE.call_repr_int (by rfl) T.repr (by decide +kernel) (pa_cons (pv 6) pa_nil)) (nomark _)) (pw_or1 (pt_cmpR op_ne (pe_call d_moves.ok (hr.mono (by decide)) (by rfl) d_moves.g d_moves.kp d_moves.b .nil pass0 (pa_cons (pe_callTy call_tupleF (by rfl) T.tuple (by decide +kernel) (pa_cons (pv 4) pa_nil)) (pa_cons (pe_callTy call_tupleF (by rfl) T.tuple (by decide +kernel) (pa_cons (pv 4) pa_nil)) pa_nil))) pe_int (nomark _)))))
            (pss_one (ps_ret pe_bl))
            pss_nil)
          (pss_cons (ps_setLc (i := 7) (own := [("_law_one", 9)]) (g := gName 9) (by rfl) scL.nd rfl rfl (sw_true rfl rfl rfl (by decide +kernel)) (pi_list (pv 5)) (blkOk_by (own := [("_law_one", 9)]) (N := ["_law_script", "_law_k", "_law_box_here", "_law_turn", "_law_early", "_law_late", "_law_due", "_law_both", "_law_told", "_law_one"]) (sc := defScope sLaw) (by decide +kernel)) (fun _ _ _ _ _ => (pg_name (i := 9) scL.nd rfl (Or.inl rfl))) (fun _ _ _ _ _ => (pts_one (pt_cmpR (r := rIn K false) op_in_seq (pv 9) (pv 4) (by rfl)))) (fun _ _ _ _ _ => (pv 9)))
          (pss_one (ps_if (PW.pt (pw_and (pt_cmpR op_lt (pe_callB call_len_seq (by rfl) T.len (by decide +kernel) (pa_cons (pv 5) pa_nil)) pe_int (nomark _)) (pw_and1 (pt_cmpR op_ne (pe_op op_sub (pe_callB call_len_seq (by rfl) T.len (by decide +kernel) (pa_cons (pv 7) pa_nil)) (pe_call d_most_kept.ok (hr.mono (by decide)) (by rfl) d_most_kept.g d_most_kept.kp d_most_kept.b .nil pass0 (pa_cons (pv 4) (pa_cons (pv 5) pa_nil)))) (pv 6) (nomark _)))))
            (pss_one (ps_ret pe_bl))
            pss_nil)))))))))))
      (pss_cons (ps_set (i := 8) scL.nd rfl (Or.inl rfl) (pe_lst (pa_cons (pe_call d_moves.ok (hr.mono (by decide)) (by rfl) d_moves.g d_moves.kp d_moves.b .nil pass0 (pa_cons (pe_tupF (pa_cons pe_int (pa_cons pe_int (pa_cons pe_int (pa_cons pe_int pa_nil))))) (pa_cons (pe_tupF (pa_cons pe_int (pa_cons pe_int (pa_cons pe_int (pa_cons pe_int pa_nil))))) pa_nil))) (pa_cons (pe_call d_moves.ok (hr.mono (by decide)) (by rfl) d_moves.g d_moves.kp d_moves.b .nil pass0 (pa_cons (pe_tupF (pa_cons pe_int (pa_cons pe_int (pa_cons pe_int (pa_cons pe_int pa_nil))))) (pa_cons (pe_tupF (pa_cons pe_int (pa_cons pe_int (pa_cons pe_int (pa_cons pe_int pa_nil))))) pa_nil))) (pa_cons (pe_callK0 d_moves.ok (hr.mono (by decide)) (by rfl) d_moves.g d_moves.kp kbM pass0 (pk_cons (pe_tupF (pa_cons pe_int (pa_cons pe_int (pa_cons pe_int pa_nil)))) (pk_cons (pe_tupF (pa_cons pe_int (pa_cons pe_int (pa_cons pe_int pa_nil)))) pk_nil))) pa_nil)))))
      (pss_one (ps_ret (pe_cmpR (op_eqD hr.units) (pe_op op_cat (pv 8) (pe_lst (pa_cons (pe_call d_moves.ok (hr.mono (by decide)) (by rfl) d_moves.g d_moves.kp d_moves.b .nil pass0 (pa_cons (pe_tupF pa_nil) (pa_cons (pe_tupF pa_nil) pa_nil))) (pa_cons (pe_call d_moves.ok (hr.mono (by decide)) (by rfl) d_moves.g d_moves.kp d_moves.b .nil pass0 (pa_cons (pe_tupF (pa_cons pe_int (pa_cons pe_int pa_nil))) (pa_cons (pe_tupF (pa_cons pe_int pa_nil)) pa_nil))) (pa_cons (pe_call d_moves.ok (hr.mono (by decide)) (by rfl) d_moves.g d_moves.kp d_moves.b .nil pass0 (pa_cons (pe_tupF (pa_cons pe_int (pa_cons pe_int pa_nil))) (pa_cons (pe_tupF (pa_cons pe_int (pa_cons pe_int pa_nil))) pa_nil))) pa_nil))))) (pe_lst (pa_cons pe_int (pa_cons pe_int (pa_cons pe_int (pa_cons pe_int (pa_cons pe_int (pa_cons pe_int pa_nil))))))) (nomark _)))))), ?_⟩
    refine ⟨.ref a, rfl, a, _, rfl, .inl hS, 2, _, rfl, 1, _, rfl, rfl, ((1 + min 2 ns.length : Nat) : Int), ?_, by omega, by omega, ?_⟩
    · show [V.int (1 + (if ((iVs ns).length : Int) < 2 then ((iVs ns).length : Int) else 2))] = _
      rw [iVs_len]
      congr 2
      split <;> omega
    · refine for_range (lo := 0) (n := 1 + min 2 ns.length) (fun i σ H3 => ∃ y1 y2 y3 y4 y5 y6 y7 y8 y9, σ = [some (.ref a), y1, y2, y3, y4, y5, y6, y7, y8, y9] ∧ SqL K H3 a (iVs ns)) ?_ (fun k σ H3 hk hP => ?_) (fun σ H3 hP => ?_)
      · exact ⟨_, _, _, _, _, _, _, _, _, rfl, hS⟩
      · obtain ⟨y1, y2, y3, y4, y5, y6, y7, y8, y9, rfl, hS3⟩ := hP
        rw [Int.zero_add]
        refine ⟨.ref a, rfl, .int (k : Nat), rfl, a, ns, k, rfl, hS3, by omega, fun b u nb hB => ?_⟩
        have off0 : Off b H3 (upd H3 b u) := Off.box
        refine ⟨8, rfl, by decide, by decide, ?_⟩
        refine for_range (lo := 0) (n := 8) (fun j σ H4 => ∃ y3 y4 y5 y6 y7 y8 y9, σ = [some (.ref a), some (.int (k : Nat)), some (.ref b), y3, y4, y5, y6, y7, y8, y9] ∧ Off b H3 H4 ∧ Box H4 b (200 * j)) ?_ (fun j σ H4 hj hP => ?_) (fun σ H4 hP => ?_)
        · exact ⟨_, _, _, _, _, _, _, rfl, off0, hB⟩
        · obtain ⟨y3, y4, y5, y6, y7, y8, y9, rfl, off, hB4⟩ := hP
          -- early
          refine ⟨.ref b, rfl, .ref b, rfl, by show 3 ≤ sizeLine; decide, fun l1 n1 => ?_⟩
          have l1b := hB4.ne n1
          refine ⟨b, l1, [.int 3, .int 7, .int 12], 200 * j, rfl, upd_same, l1b, hB4.new l1b, by omega, by show 0 < 3; decide, by show 3 < 1000000; decide, fun x u1 hx hB5 => ?_⟩
          obtain ⟨nn, rfl, hnn⟩ : ∃ n : Nat, x = .int (n : Int) ∧ n ≤ 12 := by
            rcases List.mem_cons.mp hx with rfl | hx
            · exact ⟨3, rfl, by decide⟩
            · rcases List.mem_cons.mp hx with rfl | hx
              · exact ⟨7, rfl, by decide⟩
              · have e : x = .int 12 := by simpa using hx
                exact ⟨12, e, by decide⟩
          have off5 : Off b H3 (upd (upd H4 l1 (.lst [.int 3, .int 7, .int 12])) b u1) := (off.trans (Off.new n1)).trans Off.box
          generalize upd (upd H4 l1 (.lst [.int 3, .int 7, .int 12])) b u1 = H5 at hB5 off5
          refine ⟨_, rfl, RgOk.of_le (by decide) (by omega) (by decide) (by omega), fun l2 n2 => ?_⟩
          have l2b := hB5.ne n2
          rw [rg_ints]
          refine ⟨b, l2, upTo nn, 200 * j + 1, rfl, upd_same, l2b, hB5.new l2b, ?_, ?_, fun H6 E early pE nE hE hB6 off6 => ?_⟩
          · simp
            omega
          · simp
            omega
          have leE : early.length = nn := by
            rw [pE.length_eq]
            simp
          have hB6 : Box H6 b (200 * j + 1 + 2 * 12) := hB6.mono (by simp; omega)
          have nE5 : H5 E = none := by
            cases z : H5 E with
            | none => rfl
            | some o =>
              rw [upd_ne (ne_of_none z n2), z] at nE
              cases nE
          have Eb := hB5.ne nE5
          have off6 : Off b H3 H6 := (off5.trans (Off.new n2)).trans off6
          -- late
          refine ⟨.ref b, rfl, .ref E, rfl, E, rfl, ⟨_, SqL.of hE⟩, fun D nD => ?_⟩
          refine lc_list (xs := iVs early) (fun i H7 => ∃ sub, Off b H6 H7 ∧ Box H7 b (200 * j + 25 + i) ∧ H7 D = some (.lst (iVs sub)) ∧ sub.Sublist (early.take i)) ⟨[], Off.new nD, hB6.new (hB6.ne nD), upd_same, List.nil_sublist _⟩
            (fun i H7 _ ⟨_, o7, _⟩ => SqL.of (o7 _ _ Eb hE)) (fun i x H7 hx hP => ?_) (fun H7 hP => ?_)
          · obtain ⟨sub, off7, hB7, hD7, hsub⟩ := hP
            obtain ⟨n, hn, rfl⟩ := atV hx
            have hi : i < early.length := (List.getElem?_eq_some_iff.mp hn).1
            have Db := hB6.ne nD
            refine ⟨rfl, .ref b, rfl, b, 5, 200 * j + 25 + i, rfl, hB7, by omega, by decide, by decide, fun r u2 r0 r1 hB8 => ?_⟩
            refine ⟨r, 0, rfl, rfl, _, rfl, ite2 (fun e => ?_) (fun e => ?_)⟩
            · refine ⟨.int n, rfl, _, by rw [upd_ne Db]; exact hD7, ?_, sub ++ [n], (off7.trans Off.box).put nD, hB8.new Db, ?_, ?_⟩
              · have := hsub.length_le
                rw [iVs_len]
                exact small1000 (by rw [List.length_take] at this; omega)
              · rw [upd_same, iVs_snoc]
              · rw [take_next hn]
                exact hsub.append (List.Sublist.refl _)
            · refine ⟨sub, off7.trans Off.box, hB8, by rw [upd_ne Db]; exact hD7, ?_⟩
              rw [take_next hn]
              exact hsub.trans (List.sublist_append_left _ _)
          · obtain ⟨sub, off7, hB7, hD7, hsub⟩ := hP
            rw [iVs_len, List.take_length] at hsub
            rw [iVs_len] at hB7
            have hE7 := off7 _ _ Eb hE
            have Db := hB6.ne nD
            have off7 : Off b H3 H7 := off6.trans off7
            refine ⟨by show 2 ≤ sizeLine; decide, fun l3 n3 => ?_⟩
            have l3b := hB7.ne n3
            refine ⟨.ref b, rfl, b, 3, _, rfl, hB7.new l3b, by omega, by decide, by decide, fun r u3 r0 r1 hB8 => ?_⟩
            refine ⟨r, rfl, l3, _, rfl, SqL.of (by rw [upd_ne l3b]; exact upd_same), fun l4 n4 => ?_⟩
            obtain ⟨new, hnew, hcut⟩ : ∃ new : List Int, (new = [] ∨ new = [20] ∨ new = [20, 30]) ∧ cutV [.int 20, .int 30] none (some r) = iVs new := by
              obtain rfl | rfl | rfl : r = 0 ∨ r = 1 ∨ r = 2 := by omega
              · exact ⟨[], .inl rfl, rfl⟩
              · exact ⟨[20], .inr (.inl rfl), rfl⟩
              · exact ⟨[20, 30], .inr (.inr rfl), rfl⟩
            rw [hcut]
            have hD8 : (upd (upd H7 l3 (.lst [.int 20, .int 30])) b u3) D = some (.lst (iVs sub)) := by
              rw [upd_ne Db, upd_ne (ne_of_none hD7 n3)]
              exact hD7
            have hE8 : (upd (upd H7 l3 (.lst [.int 20, .int 30])) b u3) E = some (.lst (iVs early)) := by
              rw [upd_ne Eb, upd_ne (ne_of_none hE7 n3)]
              exact hE7
            have off8 : Off b H3 (upd (upd H7 l3 (.lst [.int 20, .int 30])) b u3) := (off7.trans (Off.new n3)).trans Off.box
            generalize upd (upd H7 l3 (.lst [.int 20, .int 30])) b u3 = H8 at hB8 hD8 hE8 off8 n4
            have l4b := hB8.ne n4
            have lsub := hsub.length_le
            have lnew : new.length ≤ 2 := by rcases hnew with rfl | rfl | rfl <;> decide
            refine ⟨D, l4, _, _, rfl, rfl, same_new n4 _ _ hD8, upd_same, ?_, fun l5 n5 => ?_⟩
            · rw [iVs_len, iVs_len]
              exact Nat.le_of_lt (small1000 (by omega))
            have hB9 : Box (upd H8 l4 (.lst (iVs new))) b _ := hB8.new l4b
            have l5b := hB9.ne n5
            have hE9 := same_new (o := .lst (iVs new)) n4 _ _ hE8
            have off9 : Off b H3 (upd H8 l4 (.lst (iVs new))) := off8.trans (Off.new n4)
            generalize upd H8 l4 (.lst (iVs new)) = H9 at hB9 hE9 off9 n5
            rw [show iVs sub ++ iVs new = iVs (sub ++ new) from List.map_append.symm]
            refine ⟨b, l5, sub ++ new, _, rfl, upd_same, l5b, hB9.new l5b, ?_, ?_, fun H10 L late pL nL hL hB10 off10 => ?_⟩
            · rw [List.length_append]
              omega
            · rw [List.length_append]
              omega
            have Eb2 := Eb
            have hE10 := off10 _ _ Eb (same_new (o := .lst (iVs (sub ++ new))) n5 _ _ hE9)
            have off10 : Off b H3 H10 := (off9.trans (Off.new n5)).trans off10
            have hB10 : Box H10 b (200 * (j + 1)) := hB10.mono (by rw [List.length_append]; omega)
            have tw := two_of hnn pE hsub hnew pL
            clear hB9 hE9 off9 n5 hB8 hD8 hE8 off8 n4 hcut
            -- due
            refine ⟨.ref L, rfl, L, rfl, ⟨_, SqL.of hL⟩, fun D2 nD2 => ?_⟩
            refine lc_list (xs := iVs late) (fun i H => Same H10 H ∧ H D2 = some (.lst (iVs (both early (late.take i))))) ⟨same_new nD2, upd_same⟩ (fun i H11 _ h => SqL.of (h.1 _ _ hL)) (fun i x H11 hx h => ?_) (fun H11 h => ?_)
            · obtain ⟨n, hn, rfl⟩ := atV hx
              obtain ⟨sm, hD⟩ := h
              refine ⟨rfl, .int n, rfl, .ref E, rfl, E, _, rfl, .inl (SqL.of (sm _ _ hE10)), rfl, flI early, _, rfl, ?_⟩
              rw [take_next hn, both_snoc]
              show if inV (.int n) (iVs early) = true then _ else _
              rw [inI]
              refine ite2 (fun e => ?_) (fun e => ?_)
              · have e : n ∈ early := of_decide_eq_true e
                rw [if_pos e]
                refine ⟨.int n, rfl, _, hD, ?_, same_put sm nD2, ?_⟩
                · rw [iVs_len]
                  exact small1000 (Nat.le_trans (both_len _ _) (by have := tw.ll; rw [List.length_take]; omega))
                · rw [upd_same, iVs_snoc]
              · have e : n ∉ early := fun z => e (decide_eq_true z)
                rw [if_neg e, List.append_nil]
                exact ⟨sm, hD⟩
            obtain ⟨sm11, hD11⟩ := h
            rw [iVs_len, List.take_length] at hD11
            have lb : ((iVs (both early late)).length : Int) - lis (ixs early late) = mv early late := by
              unfold mv
              rw [iVs_len, ← both_ixs, List.length_map]
            refine ⟨D2, _, rfl, .inl (SqL.of hD11), .ref E, rfl, E, _, rfl, SqL.of (sm11 _ _ hE10), fun t1 o1 nt1 d1 => ⟨.ref L, rfl, L, _, rfl, SqL.of (same_new nt1 _ _ (sm11 _ _ hL)), fun t2 o2 nt2 d2 => ?_⟩⟩
            refine ⟨t1, t2, early, late, rfl, ⟨o1, same_new nt2 _ _ upd_same, d1⟩, FzT.sq ⟨o2, upd_same, d2⟩, by have := tw.ll; omega, fun H12 sm12 => ⟨_, _, rfl, rfl, ?_⟩⟩
            have sm12 : Same H10 H12 := ((sm11.trans (same_new nt1)).trans (same_new nt2)).trans sm12
            have hE12 := sm12 _ _ hE10
            have hL12 := sm12 _ _ hL
            have hB12 := Same.box sm12 hB10
            have off12 : Off b H3 H12 := off10.trans (Same.off b sm12)
            clear hB10 off10 hE10 hL sm12 hD11 sm11 nL
            -- repr(moves(..)) != repr(due) or moves(..) != 0
            refine ⟨.ref E, rfl, E, _, rfl, SqL.of hE12, fun t3 o3 nt3 d3 => ⟨.ref L, rfl, L, _, rfl, SqL.of (same_new nt3 _ _ hL12), fun t4 o4 nt4 d4 => ?_⟩⟩
            refine ⟨t3, t4, early, late, rfl, ⟨o3, same_new nt4 _ _ upd_same, d3⟩, FzT.sq ⟨o4, upd_same, d4⟩, by have := tw.ll; omega, fun H13 sm13 => ?_⟩
            have sm13 : Same H12 H13 := ((same_new nt3).trans (same_new nt4)).trans sm13
            refine ⟨_, rfl, mv_le tw.ll, _, rfl, (((iVs (both early late)).length : Int) - lis (ixs early late)), rfl, by rw [lb]; exact mv_le tw.ll, rfl, _, rfl, iteNS (congrArg (fun z : Int => V.str (Str.ofString (toString z))) lb.symm) ?_⟩
            refine ⟨.ref E, rfl, E, _, rfl, SqL.of (sm13 _ _ hE12), fun t5 o5 nt5 d5 => ⟨.ref E, rfl, E, _, rfl, SqL.of (same_new nt5 _ _ (sm13 _ _ hE12)), fun t6 o6 nt6 d6 => ?_⟩⟩
            refine ⟨t5, t6, early, early, rfl, ⟨o5, same_new nt6 _ _ upd_same, d5⟩, FzT.sq ⟨o6, upd_same, d6⟩, by have := tw.le; omega, fun H14 sm14 => ?_⟩
            have sm14 : Same H12 H14 := ((sm13.trans (same_new nt5)).trans (same_new nt6)).trans sm14
            refine ⟨rfl, _, rfl, iteNS (congrArg V.int (mv_self tw.nd)) ?_⟩
            have hE14 := sm14 _ _ hE12
            have hL14 := sm14 _ _ hL12
            have hB14 := Same.box sm14 hB12
            have off14 : Off b H3 H14 := off12.trans (Same.off b sm14)
            -- both
            refine ⟨.ref L, rfl, L, rfl, ⟨_, SqL.of hL14⟩, fun D3 nD3 => ?_⟩
            refine lc_list (xs := iVs late) (fun i H => Same H14 H ∧ H D3 = some (.lst (iVs (both early (late.take i))))) ⟨same_new nD3, upd_same⟩ (fun i H15 _ h => SqL.of (h.1 _ _ hL14)) (fun i x H15 hx h => ?_) (fun H15 h => ?_)
            · obtain ⟨n, hn, rfl⟩ := atV hx
              obtain ⟨sm, hD⟩ := h
              refine ⟨rfl, .int n, rfl, .ref E, rfl, E, _, rfl, .inl (SqL.of (sm _ _ hE14)), rfl, flI early, _, rfl, ?_⟩
              rw [take_next hn, both_snoc]
              show if inV (.int n) (iVs early) = true then _ else _
              rw [inI]
              refine ite2 (fun e => ?_) (fun e => ?_)
              · have e : n ∈ early := of_decide_eq_true e
                rw [if_pos e]
                refine ⟨.int n, rfl, _, hD, ?_, same_put sm nD3, ?_⟩
                · rw [iVs_len]
                  exact small1000 (Nat.le_trans (both_len _ _) (by have := tw.ll; rw [List.length_take]; omega))
                · rw [upd_same, iVs_snoc]
              · have e : n ∉ early := fun z => e (decide_eq_true z)
                rw [if_neg e, List.append_nil]
                exact ⟨sm, hD⟩
            obtain ⟨sm15, hD15⟩ := h
            rw [iVs_len, List.take_length] at hD15
            refine ⟨.ref L, rfl, L, _, rfl, .inl (SqL.of (sm15 _ _ hL14)), _, 8, rfl, rfl, _, rfl, ite2 (fun e => ?_) (fun e => ?_)⟩
            · have e : ((iVs late).length : Int) < 8 := of_decide_eq_true e
              rw [iVs_len] at e
              refine ⟨.ref D3, rfl, D3, _, rfl, .inl (SqL.of hD15), .ref E, rfl, .ref L, rfl, E, L, early, late, rfl, SqL.of (sm15 _ _ hE14), SqL.of (sm15 _ _ hL14), by omega, fun H16 sm16 => ?_⟩
              refine ⟨_, _, rfl, rfl, _, rfl, rfl, _, rfl, iteNS ?_ ?_⟩
              · rw [most_lis (ixs_nodup tw.nl)]
              · exact ⟨_, _, _, _, _, _, _, rfl, off14.trans (Same.off b (sm15.trans sm16)), Same.box (sm15.trans sm16) hB14⟩
            · refine iteF ?_
              exact ⟨_, _, _, _, _, _, _, rfl, off14.trans (Same.off b sm15), Same.box sm15 hB14⟩
        · obtain ⟨y3, y4, y5, y6, y7, y8, y9, rfl, off, hB4⟩ := hP
          exact ⟨_, _, _, _, _, _, _, _, _, rfl, off_seq nb off hS3⟩
      · obtain ⟨y1, y2, y3, y4, y5, y6, y7, y8, y9, rfl, hS3⟩ := hP
        have z4 : 4 ≤ sizeLine := by decide
        have z3 : 3 ≤ sizeLine := by decide
        have z2 : 2 ≤ sizeLine := by decide
        have z1 : 1 ≤ sizeLine := by decide
        have z0 : 0 ≤ sizeLine := by decide
        refine ⟨z4, fun p1 o1 n1 d1 => ⟨z4, fun p2 o2 n2 d2 => ⟨p1, p2, [0, 1, 2, 3], [3, 0, 1, 2], rfl, ⟨o1, same_new n2 _ _ upd_same, d1⟩, FzT.sq ⟨o2, upd_same, d2⟩, by decide, fun H1 sm1 => ?_⟩⟩⟩
        refine ⟨z4, fun p1 o1 n1 d1 => ⟨z4, fun p2 o2 n2 d2 => ⟨p1, p2, [0, 1, 2, 3], [1, 0, 3, 2], rfl, ⟨o1, same_new n2 _ _ upd_same, d1⟩, FzT.sq ⟨o2, upd_same, d2⟩, by decide, fun H2 sm2 => ?_⟩⟩⟩
        refine ⟨z3, fun p1 o1 n1 d1 => ⟨z3, fun p2 o2 n2 d2 => ⟨p2, p1, [0, 1, 2], [2, 1, 0], rfl, ⟨o2, upd_same, d2⟩, FzT.sq ⟨o1, same_new n2 _ _ upd_same, d1⟩, by decide, fun H3 sm3 => ?_⟩⟩⟩
        refine ⟨z3, fun M nM => ⟨.ref M, rfl, ?_⟩⟩
        refine ⟨z0, fun p1 o1 n1 d1 => ⟨z0, fun p2 o2 n2 d2 => ⟨p1, p2, [], [], rfl, ⟨o1, same_new n2 _ _ upd_same, d1⟩, FzT.sq ⟨o2, upd_same, d2⟩, by decide, fun H4 sm4 => ?_⟩⟩⟩
        have hM4 := sm4 _ _ (same_new n2 _ _ (same_new (o := .frz o1 (.tup [])) n1 _ _ (upd_same (H := H3) (a := M) (o := .lst [.int (mv [0, 1, 2, 3] [3, 0, 1, 2]), .int (mv [0, 1, 2, 3] [1, 0, 3, 2]), .int (mv [0, 1, 2] [2, 1, 0])]))))
        refine ⟨z2, fun p1 o1 n1 d1 => ⟨z1, fun p2 o2 n2 d2 => ⟨p1, p2, [0, 1], [5], rfl, ⟨o1, same_new n2 _ _ upd_same, d1⟩, FzT.sq ⟨o2, upd_same, d2⟩, by decide, fun H5 sm5 => ?_⟩⟩⟩
        have hM5 := sm5 _ _ (same_new n2 _ _ (same_new n1 _ _ hM4))
        refine ⟨z2, fun p1 o1 n1 d1 => ⟨z2, fun p2 o2 n2 d2 => ⟨p1, p2, [4, 7], [7, 4], rfl, ⟨o1, same_new n2 _ _ upd_same, d1⟩, FzT.sq ⟨o2, upd_same, d2⟩, by decide, fun H6 sm6 => ?_⟩⟩⟩
        have hM6 := sm6 _ _ (same_new n2 _ _ (same_new n1 _ _ hM5))
        refine ⟨z3, fun N nN => ⟨M, N, _, _, rfl, rfl, same_new nN _ _ hM6, upd_same, by show 6 ≤ sizeLine; decide, fun Z nZ => ⟨by show 6 ≤ sizeLine; decide, fun Y nY => ?_⟩⟩⟩
        refine ⟨.list ([mv [0, 1, 2, 3] [3, 0, 1, 2], mv [0, 1, 2, 3] [1, 0, 3, 2], mv [0, 1, 2] [2, 1, 0], mv [] [], mv [0, 1] [5], mv [4, 7] [7, 4]].map .int), .list ([1, 2, 2, 0, 0, 1].map .int),
          Dp.lst (SqL.of (same_new nY _ _ upd_same)) (dpI _ _ [mv [0, 1, 2, 3] [3, 0, 1, 2], mv [0, 1, 2, 3] [1, 0, 3, 2], mv [0, 1, 2] [2, 1, 0], mv [] [], mv [0, 1] [5], mv [4, 7] [7, 4]]), Dp.lst (SqL.of upd_same) (dpI _ _ [1, 2, 2, 0, 0, 1]), shI _, shI _, ?_⟩
        rw [eqL]
        have e : decide ([mv [0, 1, 2, 3] [3, 0, 1, 2], mv [0, 1, 2, 3] [1, 0, 3, 2], mv [0, 1, 2] [2, 1, 0], mv [] [], mv [0, 1] [5], mv [4, 7] [7, 4]] = [1, 2, 2, 0, 0, 1]) = true := by decide
        rw [e]
        exact q _
end
end M66

set_option Elab.async false
set_option linter.all false
set_option maxRecDepth 100000
namespace M66
open PySem PySem.Spec PyProof.Rows L2 R66
/-! ### what the top has left -/
theorem all_mk {l : PySem.W.OpenLaw} {w : World} {K : PySem.W.Frag} {h : Heap} {mg : Str → Option Value} {fa f1 f2 f3 f4 f5 f6 f7 f8 : Addr} (X : K.In h) (G : h.Ns mainGlobals mg) (hfa : mg "law" = some (.ref fa))
    {od1 an1 od2 an2 od3 an3 od4 an4 od5 an5 od6 an6 od7 an7 od8 an8 : Option Addr} {sl1 sl2 sl3 sl4 sl5 sl6 sl7 sl8 : Array (Option Value)}
    {oc1 kV1 dc1 pm1 cd1 ct1 oc2 kV2 dc2 pm2 cd2 ct2 oc3 kV3 dc3 pm3 cd3 ct3 oc4 kV4 dc4 pm4 cd4 ct4 oc5 kV5 dc5 pm5 cd5 ct5 oc6 kV6 dc6 pm6 cd6 ct6 oc7 kV7 dc7 pm7 cd7 ct7 oc8 kV8 dc8 pm8 cd8 ct8 : Value}
    (a1 : PySem.W.nsIn K mainGlobals "moves" = some (some (.ref f1)))
    (l1 : K.lookup f1 = some ⟨oc1, od1, .func (PySem.W.fnOf "moves" "moves" (defArgs sMoves) (defBody sMoves) (defScope sMoves) .none kV1 dc1 pm1 an1 cd1 ct1), sl1⟩)
    (c1 : PySem.W.codeIn K cd1 "moves" = true) (k1 : PySem.W.keepIn K (.ref f1) = true)
    (a2 : PySem.W.nsIn K mainGlobals "_law_box" = some (some (.ref f2)))
    (l2 : K.lookup f2 = some ⟨oc2, od2, .func (PySem.W.fnOf "_law_box" "_law_box" (defArgs sBox) (defBody sBox) (defScope sBox) .none kV2 dc2 pm2 an2 cd2 ct2), sl2⟩)
    (c2 : PySem.W.codeIn K cd2 "_law_box" = true) (k2 : PySem.W.keepIn K (.ref f2) = true)
    (a3 : PySem.W.nsIn K mainGlobals "_law_take" = some (some (.ref f3)))
    (l3 : K.lookup f3 = some ⟨oc3, od3, .func (PySem.W.fnOf "_law_take" "_law_take" (defArgs sTake) (defBody sTake) (defScope sTake) .none kV3 dc3 pm3 an3 cd3 ct3), sl3⟩)
    (c3 : PySem.W.codeIn K cd3 "_law_take" = true) (k3 : PySem.W.keepIn K (.ref f3) = true)
    (a4 : PySem.W.nsIn K mainGlobals "_law_of" = some (some (.ref f4)))
    (l4 : K.lookup f4 = some ⟨oc4, od4, .func (PySem.W.fnOf "_law_of" "_law_of" (defArgs sOf) (defBody sOf) (defScope sOf) .none kV4 dc4 pm4 an4 cd4 ct4), sl4⟩)
    (c4 : PySem.W.codeIn K cd4 "_law_of" = true) (k4 : PySem.W.keepIn K (.ref f4) = true)
    (a5 : PySem.W.nsIn K mainGlobals "_law_stirred" = some (some (.ref f5)))
    (l5 : K.lookup f5 = some ⟨oc5, od5, .func (PySem.W.fnOf "_law_stirred" "_law_stirred" (defArgs sStirred) (defBody sStirred) (defScope sStirred) .none kV5 dc5 pm5 an5 cd5 ct5), sl5⟩)
    (c5 : PySem.W.codeIn K cd5 "_law_stirred" = true) (k5 : PySem.W.keepIn K (.ref f5) = true)
    (a6 : PySem.W.nsIn K mainGlobals "_law_most_kept" = some (some (.ref f6)))
    (l6 : K.lookup f6 = some ⟨oc6, od6, .func (PySem.W.fnOf "_law_most_kept" "_law_most_kept" (defArgs sMost) (defBody sMost) (defScope sMost) .none kV6 dc6 pm6 an6 cd6 ct6), sl6⟩)
    (c6 : PySem.W.codeIn K cd6 "_law_most_kept" = true) (k6 : PySem.W.keepIn K (.ref f6) = true)
    (a7 : PySem.W.nsIn K mainGlobals "_law_longest" = some (some (.ref f7)))
    (l7 : K.lookup f7 = some ⟨oc7, od7, .func (PySem.W.fnOf "_law_longest" "_law_longest" (defArgs sLongest) (defBody sLongest) (defScope sLongest) .none kV7 dc7 pm7 an7 cd7 ct7), sl7⟩)
    (c7 : PySem.W.codeIn K cd7 "_law_longest" = true) (k7 : PySem.W.keepIn K (.ref f7) = true)
    (a8 : PySem.W.nsIn K mainGlobals "law" = some (some (.ref f8)))
    (l8 : K.lookup f8 = some ⟨oc8, od8, .func (PySem.W.fnOf "law" "law" (defArgs sLaw) (defBody sLaw) (defScope sLaw) .none kV8 dc8 pm8 an8 cd8 ct8), sl8⟩)
    (c8 : PySem.W.codeIn K cd8 "law" = true) (k8 : PySem.W.keepIn K (.ref f8) = true)
    (z0 : PySem.W.nsIn K mainGlobals "len" = some none)
    (z1 : PySem.W.nsIn K mainGlobals "abs" = some none)
    (z2 : PySem.W.nsIn K mainGlobals "int" = some none)
    (z3 : PySem.W.nsIn K mainGlobals "max" = some none)
    (z4 : PySem.W.nsIn K mainGlobals "min" = some none)
    (z5 : PySem.W.nsIn K mainGlobals "range" = some none)
    (z6 : PySem.W.nsIn K mainGlobals "enumerate" = some none)
    (z7 : PySem.W.nsIn K mainGlobals "sorted" = some none)
    (z8 : PySem.W.nsIn K mainGlobals "list" = some none)
    (z9 : PySem.W.nsIn K mainGlobals "tuple" = some none)
    (z10 : PySem.W.nsIn K mainGlobals "repr" = some none) :
    ∃ fd : FuncData, (∀ (s : Shared) (v : Value), BindsTo s fd ⟨[v], []⟩ [("_law_script", v)]) ∧ ∀ base : Heap, K.In base → base.Ns mainGlobals mg → FnOk l.prog w K mg base CX0 4 fa fd ["_law_script"] (spLaw K) := by
  have e := hfa.symm.trans (PySem.W.mg_of X G a8)
  cases e
  have F1 := fun_mk (st := sMoves) l1 c1 k1
  have b1 := F1.binds (ps := ["old", "new"]) fun _ _ _ _ _ _ us hl => match us, hl with | [_, _], _ => rfl
  have F2 := fun_mk (st := sBox) l2 c2 k2
  have b2 := F2.binds (ps := ["_law_script", "_law_k"]) fun _ _ _ _ _ _ us hl => match us, hl with | [_, _], _ => rfl
  have F3 := fun_mk (st := sTake) l3 c3 k3
  have b3 := F3.binds (ps := ["_law_box_here", "_law_many"]) fun _ _ _ _ _ _ us hl => match us, hl with | [_, _], _ => rfl
  have F4 := fun_mk (st := sOf) l4 c4 k4
  have b4 := F4.binds (ps := ["_law_box_here", "_law_some"]) fun _ _ _ _ _ _ us hl => match us, hl with | [_, _], _ => rfl
  have F5 := fun_mk (st := sStirred) l5 c5 k5
  have b5 := F5.binds (ps := ["_law_box_here", "_law_some"]) fun _ _ _ _ _ _ us hl => match us, hl with | [_, _], _ => rfl
  have F6 := fun_mk (st := sMost) l6 c6 k6
  have b6 := F6.binds (ps := ["_law_early", "_law_late"]) fun _ _ _ _ _ _ us hl => match us, hl with | [_, _], _ => rfl
  have F7 := fun_mk (st := sLongest) l7 c7 k7
  have b7 := F7.binds (ps := ["_law_early", "_law_late"]) fun _ _ _ _ _ _ us hl => match us, hl with | [_, _], _ => rfl
  have F8 := fun_mk (st := sLaw) l8 c8 k8
  have T : Bl mg := ⟨PySem.W.mg_none_of X G z0, PySem.W.mg_none_of X G z1, PySem.W.mg_none_of X G z2, PySem.W.mg_none_of X G z3, PySem.W.mg_none_of X G z4, PySem.W.mg_none_of X G z5, PySem.W.mg_none_of X G z6, PySem.W.mg_none_of X G z7, PySem.W.mg_none_of X G z8, PySem.W.mg_none_of X G z9, PySem.W.mg_none_of X G z10⟩
  refine ⟨PySem.W.fnOf "law" "law" (defArgs sLaw) (defBody sLaw) (defScope sLaw) .none kV8 dc8 pm8 an8 cd8 ct8, fun s v => .of_eq rfl, fun base _ _ => ?_⟩
  have dT : Dn l.prog w K mg base "_law_take" 1 _ spTake := ⟨_, _, ok_take F3, PySem.W.mg_of X G a3, F3.kp, b3⟩
  have dO : Dn l.prog w K mg base "_law_of" 2 _ spOf := ⟨_, _, ok_of F4 T dT, PySem.W.mg_of X G a4, F4.kp, b4⟩
  have dS : Dn l.prog w K mg base "_law_stirred" 3 _ spStirred := ⟨_, _, ok_stirred F5 T dT dO, PySem.W.mg_of X G a5, F5.kp, b5⟩
  refine ok_law F8 T ⟨_, _, ok_box F2 T, PySem.W.mg_of X G a2, F2.kp, b2⟩ dT dO dS ⟨_, _, ok_moves F1 T, PySem.W.mg_of X G a1, F1.kp, b1⟩ ⟨_, _, ok_longest F7 T, PySem.W.mg_of X G a7, F7.kp, b7⟩ ⟨_, _, ok_most F6 T, PySem.W.mg_of X G a6, F6.kp, b6⟩ ⟨fun s us ws _ hl => ?_, fun {vs us zs ws} r1 r2 => ?_⟩
  · match us, ws, hl with
    | [], [_, _], _ => exact .of_eq rfl
    | [], [], hl => exact nomatch hl
    | [], [_], hl => exact nomatch hl
    | [], _ :: _ :: _ :: _, hl => exact nomatch hl
    | _ :: _, _, hl => exact nomatch hl
  · exact gK_rel r1 r2
end M66
open PySem PySem.W PyProof.Rows
set_option maxHeartbeats 0 in
theorem PySem.Challenge.cw_sourceback_k66_moves_of_lists_holds : PySem.Challenge.rw_sourceback_k66_moves_of_lists.Holds := by
  w_on; o_law; k_head; (case hw => w_witness2)
  k_fill
  refine L2.walk_of (l := PySem.Challenge.rw_sourceback_k66_moves_of_lists) (n := 63) (k := 4) (x := "_law_script") (CX := fun _ => L2.CX0) (sp := fun w => M66.spLaw _) rfl (by decide) rfl ⟨rfl, by decide, by decide⟩ (fun w h Y => PySem.W.kIn_of Y) ?F (fun _ _ a ns hl _ hS => ⟨a, ns, rfl, hS, hl, fun _ => rfl⟩) (fun _ _ _ _ _ h => h)
  case F =>
    intro w mg fa h KX G hmg
    refine' M66.all_mk KX G hmg ?a1 ?l1 ?c1 ?k1 ?a2 ?l2 ?c2 ?k2 ?a3 ?l3 ?c3 ?k3 ?a4 ?l4 ?c4 ?k4 ?a5 ?l5 ?c5 ?k5 ?a6 ?l6 ?c6 ?k6 ?a7 ?l7 ?c7 ?k7 ?a8 ?l8 ?c8 ?k8 ?z0 ?z1 ?z2 ?z3 ?z4 ?z5 ?z6 ?z7 ?z8 ?z9 ?z10
    (case a1 => k_is); (case l1 => k_is); (case c1 => k_is); (case k1 => k_is); (case a2 => k_is); (case l2 => k_is); (case c2 => k_is); (case k2 => k_is); (case a3 => k_is); (case l3 => k_is); (case c3 => k_is); (case k3 => k_is); (case a4 => k_is); (case l4 => k_is); (case c4 => k_is); (case k4 => k_is); (case a5 => k_is); (case l5 => k_is); (case c5 => k_is); (case k5 => k_is); (case a6 => k_is); (case l6 => k_is); (case c6 => k_is); (case k6 => k_is); (case a7 => k_is); (case l7 => k_is); (case c7 => k_is); (case k7 => k_is); (case a8 => k_is); (case l8 => k_is); (case c8 => k_is); (case k8 => k_is); (case z0 => k_is); (case z1 => k_is); (case z2 => k_is); (case z3 => k_is); (case z4 => k_is); (case z5 => k_is); (case z6 => k_is); (case z7 => k_is); (case z8 => k_is); (case z9 => k_is); (case z10 => k_is)
