import PyProof.Rows.All
import Wide.All
import OpenK.AllK
import Wide.FinOn
import KE.KStateDown
import HandS.ForMost
import HandS.ForExc
import HandS.More
import HandS.Defaults
import HandS.SortInts
import HandS.Conv
import HandS.Zip
import HandS.Walk
import HandS.TupAny
import HandS.IsInst
import HandS.WideBits
import PyProof.TupleOfSeq
import PyProof.ReprRoads
import HandS.HeadEnd
import HandS.Sort
import PyProof.ReprBulk
import HandS.Codes
import HandS.Base
import HandS.Call
import HandS.Ends
import HandS.Words
import HandS.WordsExc
import HandS.Head0
import HandS.Head1
import HandS.Head2
import HandS.HeadHook1
import HandS.HeadHook2
import PySem.Challenge.RW_lowerboards_k27_whole_least_orders_of_co
set_option Elab.async false
set_option linter.all false
set_option maxRecDepth 100000
/-! the text by places -/
namespace Lb
open PySem PySem.Spec PyProof.Rows L2
def top (i : Nat) : Stmt := PySem.Challenge.pw_lowerboards_k27_whole_least_orders_of_co.main.body.getD i (.Pass ⟨0, 0, 0, 0⟩)
abbrev s_is_integer : Stmt := top 9
abbrev s_is_count : Stmt := top 10
abbrev s_is_list : Stmt := top 11
abbrev s_is_order : Stmt := top 12
abbrev s_want_many : Stmt := top 13
abbrev s_want_order : Stmt := top 14
abbrev s_want_alike : Stmt := top 15
abbrev s_is_lower : Stmt := top 17
abbrev s_want_two : Stmt := top 18
abbrev s_is_below : Stmt := top 19
abbrev s_is_corner : Stmt := top 22
abbrev s_want_corner : Stmt := top 23
abbrev s_count_of : Stmt := top 24
abbrev s_counted : Stmt := top 25
abbrev s_least_count : Stmt := top 26
abbrev s_most_count : Stmt := top 27
abbrev s_least_of : Stmt := top 28
abbrev s_least_with : Stmt := top 29
abbrev s_law_pot : Stmt := top 31
abbrev s_law_draw : Stmt := top 32
abbrev s_law_pick : Stmt := top 33
abbrev s_law_mixed : Stmt := top 34
abbrev s_law_order : Stmt := top 35
abbrev s_law_all : Stmt := top 36
abbrev s_law_count : Stmt := top 37
abbrev s_law_corners : Stmt := top 38
abbrev s_law_lower : Stmt := top 39
abbrev s_law_least : Stmt := top 40
abbrev s_law_one_right : Stmt := top 41
abbrev s_law_right : Stmt := top 42
abbrev s_law : Stmt := top 43
/-- a def of the text as it stands behind the top -/
abbrev FnP (K : PySem.W.Frag) (x : Str) (st : Stmt) (f : Addr) (fd : FuncData) : Prop := FunD K x x (defArgs st) (defBody st) (defScope st) [] [] f fd
end Lb

/-! plain laws of orders: counts of prefixes, least orders, sorted prefixes -/
namespace LbM

/-- a, a + 1, .., len many -/
def rg (a : Int) (len : Nat) : List Int := (List.range len).map fun i => a + (i : Nat)
theorem rg_len (a : Int) (len : Nat) : (rg a len).length = len := by
  unfold rg; rw [List.length_map, List.length_range]
theorem rg_zero (a : Int) : rg a 0 = [] := rfl
theorem rg_succ (a : Int) (len : Nat) : rg a (len + 1) = rg a len ++ [a + (len : Int)] := by
  unfold rg; rw [List.range_succ, List.map_append]; rfl
theorem rg_cons (a : Int) (len : Nat) : rg a (len + 1) = a :: rg (a + 1) len := by
  unfold rg
  rw [List.range_succ_eq_map, List.map_cons, List.map_map]
  congr 1
  · show a + (0 : Int) = a
    omega
  · apply List.map_congr_left
    intro i _
    show a + ((i + 1 : Nat) : Int) = a + 1 + (i : Int)
    omega
theorem rg_app (a : Int) (m n : Nat) : rg a (m + n) = rg a m ++ rg (a + (m : Int)) n := by
  induction n with
  | zero => rw [rg_zero, List.append_nil]; rfl
  | succ n ih =>
    rw [show m + (n + 1) = (m + n) + 1 by omega, rg_succ, rg_succ, ih, List.append_assoc]
    congr 3
    omega
theorem rg_take (a : Int) (len j : Nat) : (rg a len).take j = rg a (min j len) := by
  unfold rg
  rw [← List.map_take, List.take_range]
theorem mem_rg {a x : Int} {len : Nat} : x ∈ rg a len ↔ a ≤ x ∧ x < a + (len : Int) := by
  unfold rg
  rw [List.mem_map]
  constructor
  · rintro ⟨i, hi, rfl⟩
    have := List.mem_range.mp hi
    omega
  · intro ⟨h1, h2⟩
    exact ⟨(x - a).toNat, List.mem_range.mpr (by omega), by omega⟩

/-- how many are k or more -/
def ge (k : Int) (l : List Int) : Nat := l.countP fun x => decide (k ≤ x)
theorem ge_nil (k : Int) : ge k [] = 0 := rfl
theorem ge_cons (k x : Int) (l : List Int) : ge k (x :: l) = (if k ≤ x then 1 else 0) + ge k l := by
  unfold ge
  rw [List.countP_cons]
  by_cases h : k ≤ x
  · rw [if_pos (decide_eq_true h), if_pos h]; omega
  · rw [if_neg (by simpa using h), if_neg h]; omega
theorem ge_app (k : Int) (l m : List Int) : ge k (l ++ m) = ge k l + ge k m := List.countP_append
theorem ge_le (k : Int) (l : List Int) : ge k l ≤ l.length := List.countP_le_length
theorem ge_perm {k : Int} {l m : List Int} (h : l.Perm m) : ge k l = ge k m := h.countP_eq _
theorem ge_rg (k a : Int) (len : Nat) : ge k (rg a len) = len - (k - a).toNat := by
  induction len with
  | zero => rw [rg_zero]; rw [ge_nil]; omega
  | succ n ih =>
    rw [rg_succ, ge_app, ih, ge_cons, ge_nil]
    split <;> omega
theorem ge_all {k : Int} {l : List Int} (h : ∀ x ∈ l, k ≤ x) : ge k l = l.length :=
  List.countP_eq_length.mpr fun x hx => decide_eq_true (h x hx)

/-- the things 1 .. n, each once -/
def Ord (n : Nat) (p : List Int) : Prop := p.Perm (rg 1 n)
theorem Ord.len {n : Nat} {p : List Int} (h : Ord n p) : p.length = n := by rw [List.Perm.length_eq h, rg_len]
theorem Ord.pos {n : Nat} {p : List Int} (h : Ord n p) : ∀ x ∈ p, 1 ≤ x := fun x hx => (mem_rg.mp ((List.Perm.mem_iff h).mp hx)).1
theorem Ord.le {n : Nat} {p : List Int} (h : Ord n p) : ∀ x ∈ p, x ≤ n := fun x hx => by
  have := (mem_rg.mp ((List.Perm.mem_iff h).mp hx)).2
  omega

/-- what a corner counts -/
def cnt (p : List Int) (m : Nat) (k : Int) : Nat := ge k (p.take m)

theorem cnt_mono {p : List Int} {m m' : Nat} {k : Int} : cnt p m k ≤ cnt p m' k + (m - m') := by
  unfold cnt
  by_cases h : m ≤ m'
  · have e : p.take m' = p.take m ++ (p.drop m).take (m' - m) := by
      conv => lhs; rw [show m' = m + (m' - m) by omega]
      rw [List.take_add]
    rw [e, ge_app]; omega
  · have e : p.take m = p.take m' ++ (p.drop m').take (m - m') := by
      conv => lhs; rw [show m = m' + (m - m') by omega]
      rw [List.take_add]
    rw [e, ge_app]
    have h1 := ge_le k ((p.drop m').take (m - m'))
    have h2 := List.length_take_le (m - m') (p.drop m')
    omega
/-- those of l that lie in k .. k' - 1 -/
theorem ge_step (k k' : Int) (l : List Int) : ge k l ≤ ge k' l + l.countP fun x => decide (k ≤ x ∧ x < k') := by
  induction l with
  | nil => exact Nat.zero_le _
  | cons x l ih =>
    rw [ge_cons, ge_cons, List.countP_cons]
    by_cases h : k ≤ x
    · by_cases h' : k' ≤ x
      · rw [if_pos h, if_pos h']; omega
      · rw [if_pos h, if_neg h', if_pos (by simp only [decide_eq_true_eq]; omega)]; omega
    · rw [if_neg h]; omega
theorem mid_rg (k k' a : Int) (len : Nat) : (rg a len).countP (fun x => decide (k ≤ x ∧ x < k')) ≤ (k' - k).toNat := by
  suffices h : (rg a len).countP (fun x => decide (k ≤ x ∧ x < k')) ≤ (min (a + len) k' - k).toNat by omega
  induction len with
  | zero => exact Nat.zero_le _
  | succ n ih =>
    rw [rg_succ, List.countP_append, List.countP_cons, List.countP_nil]
    by_cases h : k ≤ a + (n : Int) ∧ a + (n : Int) < k'
    · rw [if_pos (by simpa using h)]; omega
    · rw [if_neg (by simpa using h)]; omega
theorem cnt_step {n : Nat} {p : List Int} (hp : Ord n p) (m : Nat) (k k' : Int) : cnt p m k ≤ cnt p m k' + (k' - k).toNat := by
  have h1 := ge_step k k' (p.take m)
  have h2 : (p.take m).countP (fun x => decide (k ≤ x ∧ x < k')) ≤ p.countP (fun x => decide (k ≤ x ∧ x < k')) := (List.take_sublist m p).countP_le
  have h3 := mid_rg k k' 1 n
  rw [← List.Perm.countP_eq _ hp] at h3
  unfold cnt
  omega
/-- at most k - 1 things are below k -/
theorem cnt_low {n : Nat} {p : List Int} (hp : Ord n p) (m : Nat) (k : Int) : min m n ≤ cnt p m k + (k - 1).toNat := by
  have h := cnt_step hp m 1 k
  have e : cnt p m 1 = min m n := by
    unfold cnt
    rw [ge_all fun x hx => hp.pos x (List.mem_of_mem_take hx), List.length_take, hp.len]
  omega

/-- the least order: n things, the corner (m, k), the number c (in ints as the program has them) -/
def ahead (m k c : Int) : List Int := rg 1 (m - c).toNat ++ rg k c.toNat
def least (n m k c : Int) : List Int :=
  if c ≤ max 0 (m - k + 1) then rg 1 n.toNat else ahead m k c ++ (rg 1 n.toNat).filter fun x => decide (x ∉ ahead m k c)
structure Cn (n m k c : Int) : Prop where
  n1 : 1 ≤ n
  n9 : n ≤ 9
  m1 : 1 ≤ m
  mn : m ≤ n
  k1 : 1 ≤ k
  kn : k ≤ n
  c0 : 0 ≤ c
  cm : c ≤ m
  ck : c ≤ n - k + 1

theorem mem_ahead {m k c x : Int} : x ∈ ahead m k c ↔ (1 ≤ x ∧ x < 1 + ((m - c).toNat : Int)) ∨ (k ≤ x ∧ x < k + (c.toNat : Int)) := by
  unfold ahead
  rw [List.mem_append, mem_rg, mem_rg]
theorem keep_all {l : List Int} {q : Int → Bool} (h : ∀ x ∈ l, q x = true) : l.filter q = l := List.filter_eq_self.mpr h
theorem keep_none {l : List Int} {q : Int → Bool} (h : ∀ x ∈ l, q x = false) : l.filter q = [] := List.filter_eq_nil_iff.mpr fun x hx => by rw [h x hx]; simp
/-- its four parts -/
theorem least_parts {n m k c : Int} (h : Cn n m k c) (hb : ¬ c ≤ max 0 (m - k + 1)) :
    least n m k c = (rg 1 (m - c).toNat ++ rg k c.toNat) ++ (rg (m - c + 1) (k - 1 - (m - c)).toNat ++ rg (k + c) (n - k - c + 1).toNat) := by
  obtain ⟨n1, n9, m1, mn, k1, kn, c0, cm, ck⟩ := h
  unfold least
  rw [if_neg hb]
  have e : rg 1 n.toNat = rg 1 (m - c).toNat ++ (rg (m - c + 1) (k - 1 - (m - c)).toNat ++ (rg k c.toNat ++ rg (k + c) (n - k - c + 1).toNat)) := by
    have e1 : n.toNat = (m - c).toNat + ((k - 1 - (m - c)).toNat + (c.toNat + (n - k - c + 1).toNat)) := by omega
    rw [e1, rg_app, rg_app, rg_app]
    have a1 : (1 : Int) + ((m - c).toNat : Int) = m - c + 1 := by omega
    have a2 : m - c + 1 + ((k - 1 - (m - c)).toNat : Int) = k := by omega
    have a3 : k + (c.toNat : Int) = k + c := by omega
    rw [a1, a2, a3]
  rw [e, List.filter_append, List.filter_append, List.filter_append]
  rw [keep_none (l := rg 1 (m - c).toNat) (fun x hx => by
    have := mem_rg.mp hx
    simp only [decide_eq_false_iff_not, Decidable.not_not]
    exact mem_ahead.mpr (.inl this))]
  rw [keep_all (l := rg (m - c + 1) _) (fun x hx => by
    have := mem_rg.mp hx
    simp only [decide_eq_true_eq]
    rw [mem_ahead]
    omega)]
  rw [keep_none (l := rg k c.toNat) (fun x hx => by
    have := mem_rg.mp hx
    simp only [decide_eq_false_iff_not, Decidable.not_not]
    exact mem_ahead.mpr (.inr this))]
  rw [keep_all (l := rg (k + c) _) (fun x hx => by
    have := mem_rg.mp hx
    simp only [decide_eq_true_eq]
    rw [mem_ahead]
    omega)]
  rfl
theorem least_ord {n m k c : Int} (h : Cn n m k c) : Ord n.toNat (least n m k c) := by
  by_cases hb : c ≤ max 0 (m - k + 1)
  · unfold least
    rw [if_pos hb]
    exact List.Perm.refl _
  · rw [least_parts h hb]
    obtain ⟨n1, n9, m1, mn, k1, kn, c0, cm, ck⟩ := h
    have e : rg 1 n.toNat = rg 1 (m - c).toNat ++ (rg (m - c + 1) (k - 1 - (m - c)).toNat ++ (rg k c.toNat ++ rg (k + c) (n - k - c + 1).toNat)) := by
      have e1 : n.toNat = (m - c).toNat + ((k - 1 - (m - c)).toNat + (c.toNat + (n - k - c + 1).toNat)) := by omega
      rw [e1, rg_app, rg_app, rg_app]
      have a1 : (1 : Int) + ((m - c).toNat : Int) = m - c + 1 := by omega
      have a2 : m - c + 1 + ((k - 1 - (m - c)).toNat : Int) = k := by omega
      have a3 : k + (c.toNat : Int) = k + c := by omega
      rw [a1, a2, a3]
    unfold Ord
    rw [e, List.append_assoc, ← List.append_assoc (rg k c.toNat), ← List.append_assoc (rg (m - c + 1) _)]
    exact (List.perm_append_comm.append_right _).append_left _
/-- what a corner counts in the least order, from above -/
theorem least_cnt_le {n m k c : Int} (h : Cn n m k c) (m' : Nat) (k' : Int) (hk : 1 ≤ k') :
    (cnt (least n m k c) m' k' : Int) ≤ max (max 0 (min (m' : Int) n - (k' - 1))) (c - max 0 (m - m') - max 0 (k' - k)) := by
  by_cases hb : c ≤ max 0 (m - k + 1)
  · unfold least cnt
    rw [if_pos hb, rg_take, ge_rg]
    obtain ⟨n1, n9, m1, mn, k1, kn, c0, cm, ck⟩ := h
    omega
  · unfold cnt
    rw [least_parts h hb]
    obtain ⟨n1, n9, m1, mn, k1, kn, c0, cm, ck⟩ := h
    simp only [List.take_append, rg_take, ge_app, ge_rg, List.length_append, rg_len]
    generalize ha : (m - c).toNat = a
    generalize hc : c.toNat = c1
    generalize hd : (k - 1 - (m - c)).toNat = d
    generalize he : (n - k - c + 1).toNat = e
    have E1 : m = a + c1 := by omega
    have E2 : k = a + d + 1 := by omega
    have E3 : n = a + c1 + d + e := by omega
    have E4 : c = c1 := by omega
    subst E1 E2 E3 E4
    have E5 : 1 ≤ d := by omega
    clear ha hc hd he hb n1 n9 m1 mn k1 kn c0 cm ck
    by_cases q1 : m' ≤ a
    · simp only [Nat.min_eq_left q1, show m' - (a + c1) = 0 by omega, show m' - a = 0 by omega, Nat.zero_min, Nat.zero_sub]
      omega
    · by_cases q2 : m' ≤ a + c1
      · simp only [Nat.min_eq_right (show a ≤ m' by omega), show m' - (a + c1) = 0 by omega, Nat.zero_min, Nat.zero_sub, Nat.min_eq_left (show m' - a ≤ c1 by omega)]
        omega
      · by_cases q3 : m' ≤ a + c1 + d
        · simp only [Nat.min_eq_right (show a ≤ m' by omega), Nat.min_eq_right (show c1 ≤ m' - a by omega), Nat.min_eq_left (show m' - (a + c1) ≤ d by omega), show m' - (a + c1) - d = 0 by omega, Nat.zero_min, Nat.zero_sub]
          omega
        · simp only [Nat.min_eq_right (show a ≤ m' by omega), Nat.min_eq_right (show c1 ≤ m' - a by omega), Nat.min_eq_right (show d ≤ m' - (a + c1) by omega)]
          omega
/-- it counts as much as is asked -/
theorem least_cnt_ge {n m k c : Int} (h : Cn n m k c) : c ≤ (cnt (least n m k c) m.toNat k : Int) := by
  by_cases hb : c ≤ max 0 (m - k + 1)
  · unfold least cnt
    rw [if_pos hb, rg_take, ge_rg]
    obtain ⟨n1, n9, m1, mn, k1, kn, c0, cm, ck⟩ := h
    omega
  · unfold cnt
    rw [least_parts h hb]
    obtain ⟨n1, n9, m1, mn, k1, kn, c0, cm, ck⟩ := h
    simp only [List.take_append, rg_take, ge_app, ge_rg, List.length_append, rg_len]
    omega
/-- THE BOUND: an order with so much at the corner counts at every corner as much as the least one -/
theorem least_below {n m k c : Int} (h : Cn n m k c) {p : List Int} (hp : Ord n.toNat p) (hc : c ≤ (cnt p m.toNat k : Int)) (m' : Nat) (k' : Int) : cnt (least n m k c) m' k' ≤ cnt p m' k' := by
  by_cases hk : 1 ≤ k'
  · have h1 := least_cnt_le h m' k' hk
    have h2 := cnt_low hp m' k'
    have h3 := cnt_step hp m.toNat k k'
    have h4 : cnt p m.toNat k' ≤ cnt p m' k' + (m.toNat - m') := cnt_mono
    obtain ⟨n1, n9, m1, mn, k1, kn, c0, cm, ck⟩ := h
    omega
  · have e1 : cnt p m' k' = min m' n.toNat := by
      unfold cnt
      rw [ge_all fun x hx => by have := hp.pos x (List.mem_of_mem_take hx); omega, List.length_take, hp.len]
    have h2 := ge_le k' ((least n m k c).take m')
    rw [List.length_take, (least_ord h).len] at h2
    rw [e1]
    exact h2

/-! sorted prefixes -/
/-- place by place not greater -/
def Under : List Int → List Int → Prop
  | a :: l, b :: m => a ≤ b ∧ Under l m
  | _, _ => True
theorem under_ge : ∀ {l m : List Int}, l.length = m.length → Under l m → ∀ t, ge t l ≤ ge t m
  | [], [], _, _, _ => Nat.le_refl _
  | [], _ :: _, h, _, _ => by simp at h
  | _ :: _, [], h, _, _ => by simp at h
  | a :: l, b :: m, h, u, t => by
    have ih := under_ge (l := l) (m := m) (by simpa using h) u.2 t
    have := u.1
    rw [ge_cons, ge_cons]
    split <;> split <;> omega
theorem ge_under : ∀ {l m : List Int}, l.length = m.length → l.Pairwise (· ≤ ·) → m.Pairwise (· ≤ ·) → (∀ t, ge t l ≤ ge t m) → Under l m
  | [], _, _, _, _, _ => by unfold Under; trivial
  | _ :: _, [], h, _, _, _ => by simp at h
  | a :: l, b :: m, h, hl, hm, g => by
    have hl' := List.pairwise_cons.mp hl
    have hm' := List.pairwise_cons.mp hm
    have hlen : l.length = m.length := by simpa using h
    have hab : a ≤ b := by
      have h1 := g a
      rw [ge_cons, ge_cons, if_pos (Int.le_refl a), ge_all hl'.1] at h1
      have h2 := ge_le a m
      by_cases q : a ≤ b
      · exact q
      · rw [if_neg q] at h1; omega
    refine ⟨hab, ge_under hlen hl'.2 hm'.2 fun t => ?_⟩
    have h1 := g t
    rw [ge_cons, ge_cons] at h1
    by_cases q1 : t ≤ a
    · rw [if_pos q1, if_pos (by omega)] at h1; omega
    · by_cases q2 : t ≤ b
      · rw [ge_all (l := m) fun x hx => by have := hm'.1 x hx; omega]
        have := ge_le t l
        omega
      · rw [if_neg q1, if_neg q2] at h1; omega
/-- what is_lower asks of one prefix: no place of the sorted one is greater -/
def noGreater (l m : List Int) : Bool := !((l.zip m).map fun q => decide (q.1 > q.2)).any id
theorem noGreater_iff : ∀ {l m : List Int}, noGreater l m = true ↔ Under l m
  | [], _ => by unfold noGreater Under; simp
  | _ :: _, [] => by unfold noGreater Under; simp
  | a :: l, b :: m => by
    have ih := noGreater_iff (l := l) (m := m)
    unfold noGreater at *
    unfold Under
    rw [← ih]
    simp only [List.zip_cons_cons, List.map_cons, List.any_cons, id, Bool.not_or, Bool.and_eq_true, Bool.not_eq_true', decide_eq_false_iff_not]
    constructor
    · rintro ⟨h1, h2⟩; exact ⟨by omega, h2⟩
    · rintro ⟨h1, h2⟩; exact ⟨by omega, h2⟩
/-- below: each prefix counts no more -/
def Low (p q : List Int) : Prop := ∀ (m : Nat) (t : Int), cnt p m t ≤ cnt q m t
theorem prefix_ok {p q : List Int} (hlen : p.length = q.length) {i : Nat} {l m : List Int} (hl : l.Perm (p.take i)) (hm : m.Perm (q.take i)) (sl : l.Pairwise (· ≤ ·)) (sm : m.Pairwise (· ≤ ·)) :
    noGreater l m = true ↔ ∀ t, cnt p i t ≤ cnt q i t := by
  have e : l.length = m.length := by rw [hl.length_eq, hm.length_eq, List.length_take, List.length_take, hlen]
  rw [noGreater_iff]
  constructor
  · intro u t
    have := under_ge e u t
    rwa [ge_perm hl, ge_perm hm] at this
  · intro g
    refine ge_under e sl sm fun t => ?_
    rw [ge_perm hl, ge_perm hm]
    exact g t

/-- THE LAW: the least order is below exactly where the corner counts so much -/
theorem least_low {n m k c : Int} (h : Cn n m k c) {p : List Int} (hp : Ord n.toNat p) : Low (least n m k c) p ↔ c ≤ (cnt p m.toNat k : Int) := by
  constructor
  · intro l
    have h1 := l m.toNat k
    have h2 := least_cnt_ge h
    omega
  · intro hc m' k'
    exact least_below h hp hc m' k'
end LbM

set_option maxHeartbeats 2000000
/-! rules that the layer does not bring: sorted of a tuple of ints, tuple(range(n, 0, -1)), repr of data -/
namespace Lb
open PySem PySem.Spec PyProof.Rows L2

section
variable {prog : Program} {w : World} {A : Around} {E : Value → Shared → Prop} {s : Shared}
/-- sorted(t), t a tuple of ints, fewer than 64 -/
theorem sortTup {t : Addr} {vs : List Value} {ns : List Int} {Q : Value → Shared → Prop} (ht : IsTup s.heap t vs.toArray) (hi : IntsAre vs ns) (few : vs.length < 64)
    (out : ∀ (h1 h' : Heap) (us : List Value) (ms : List Int) (n : Nat), (∀ b o, s.heap.get? b = some o → h1.get? b = some o) → (∀ b o, h1.get? b = some o → h'.get? b = some o) → h'.get? h1.objs.size = some (seqObj "list" us.toArray n) →
      IntsAre us ms → ms.Perm ns → ms.Pairwise (· ≤ ·) → Q (.ref h1.objs.size) { s with heap := h' }) : wpAny (model prog w) A (call (.builtin "sorted") [.ref t]) Q E s := by
  obtain ⟨o, ho, hc, n, hd⟩ := ht
  have small : vs.length ≤ sizeLine := by rw [sizeLine_eq]; omega
  refine Calls.call_function_entry kind_sorted plain_sorted entry_sorted (args_sorted1 (.ref t)) ?_
  unfold Builtin.«sorted»
  refine wpAny_bind (m := checkCount "sorted" 1 1 _) (wpAny_pure ?_)
  refine wpAny_bind (wpAny_collect_seq t (.inr rfl) ho hc hd (fun h1 k1 => ?_) (by rw [List.size_toArray]; exact small))
  refine wpAny_bind (wpAny_newList ?_ small)
  have here : (h1.push (seqObj "list" vs.toArray 0)).get? h1.objs.size = some (seqObj "list" vs.toArray 0) := Heap.get?_push_size _ rfl
  refine wpAny_bind (wpAny_holding (wpAny_call_entry slot_list_sort ⟨_, here, rfl⟩ entry_list_sort (list_sort_tree here hi few fun res ms a1 a2 a3 => ⟨_, rfl, ?_⟩) (args_list_sort _)))
  obtain ⟨n', at'⟩ := sortedHeap_at (vs := vs) (out := res) here
  refine wpAny_pure ⟨_, rfl, out h1 _ res.toList ms n' k1 (fun b u e => ?_) at' a1 a2 a3⟩
  have lt1 := Heap.lt_size e
  rw [sortedHeap_old (Nat.ne_of_lt lt1) (by rw [size_push']; exact Nat.lt_succ_of_lt lt1)]
  exact Heap.get?_push_of_some _ e
end

section
variable {X : Cx}
/-- sorted(t) of a tuple of ints -/
def rSortTup (K : PySem.W.Frag) : List V → Hp → VK → Prop := fun vs H Q => ∃ (a : Addr) (ns : List Int), vs = [V.ref a] ∧ SqT K H a (ns.map V.int) ∧ ns.length < 64 ∧
  ∀ (ms : List Int) (p : Addr), ms.Perm ns → ms.Pairwise (· ≤ ·) → H p = none → Q (.ref p) (upd H p (.lst (ms.map V.int)))
theorem cr_sortTup : CallR X (.builtin "sorted") (rSortTup X.K) := by
  intro pins s σ H vs us Q I r h
  obtain ⟨a, ns, rfl, ht, few, q⟩ := h
  obtain ⟨its, rv, tp, _⟩ := I.tuple ht
  rw [Vals.ref1 r]
  have hi := rv.ints
  refine sortTup tp hi (by rw [hi.length]; exact few) fun h1 h' res ms n k1 keep pAt a1 a2 a3 => ?_
  have lz : (ms.map V.int).length ≤ sizeLine := by rw [List.length_map, a2.length_eq]; exact small64 few
  have I1 : Inv X pins σ H { s with heap := h1 } := I.kept (t' := s.toks) k1
  exact ⟨.ref h1.objs.size, upd H h1.objs.size (.lst (ms.map V.int)), I1.laid (t' := s.toks) keep (Nat.le_refl _) ⟨lz, res, n, vals_of_ints a1, pAt⟩, rfl, q ms _ a2 a3 (I1.hok.fresh (Nat.le_refl _))⟩
end
end Lb

set_option maxHeartbeats 2000000
/-! defs that are called while no repr is under way (the layer's FnOk does not carry that): law, _law_right, _law_one_right -/
namespace Lb
open PySem PySem.Spec PyProof.Rows L2

theorem three {x y z : V} {us : List Value} (r : Vals [x, y, z] us) : ∃ a b c, us = [a, b, c] ∧ RelV x a ∧ RelV y b ∧ RelV z c := by
  cases r with
  | cons h1 r => cases r with
    | cons h2 r => cases r with
      | cons h3 r =>
        cases r
        exact ⟨_, _, _, rfl, h1, h2, h3⟩
section
variable {X : Cx}
/-- tuple(range(i, j, c)) -/
theorem pe_tupStep {a b c : Expr} {ta : TA} {p q pos rpos : Pos} (hc : X.calm = true) (gt : Gl X "tuple") (nt : X.mg "tuple" = none) (gr : Gl X "range") (nr : X.mg "range" = none) (ha : PA X [a, b, c] ta)
    (e1 : starEach [a, b, c] X.env = (false, eval a X.env) :: starEach [b, c] X.env := by rfl) (e2 : (backTo rpos (starEach [b, c] X.env)).any (·.1) = false := by rfl)
    (e3 : starEach [Expr.Call (.Name "range" q) [a, b, c] [] rpos] X.env = (false, eval (Expr.Call (.Name "range" q) [a, b, c] [] rpos) X.env) :: starEach [] X.env := by rfl) :
    PE X (.Call (.Name "tuple" p) [.Call (.Name "range" q) [a, b, c] [] rpos] [] pos)
      (fun σ H Q => ta σ H fun vs H1 => ∃ (i j k : Int) (n : Nat), vs = [.int i, .int j, .int k] ∧ RgC i j k n ∧ n ≤ 2 ^ 24 ∧ ∀ t, H1 t = none → Q (.ref t) (upd H1 t (.tup ((List.range n).map fun x => V.int (i + (x : Nat) * k))))) := by
  refine ⟨fun pins s σ H Q I h => ?_⟩
  refine Call_ (ld_blt I gt nt boot_tuple (PyProof.Rows.callWith_type1 (args_cons ?_ e3) e3))
  refine Call_ (ld_blt I gr nr boot_range (PyProof.Rows.callWith_type1 (thn (ha.run rpos pins s σ H _ I h) fun us s1 ⟨vs, H1, I1, rel, got⟩ => ?_) e1 e2))
  obtain ⟨i, j, k, n, rfl, ⟨k0, k1, k2, k3⟩, fits, want⟩ := got
  obtain ⟨u1, u2, u3, rfl, ⟨t1, rfl⟩, ⟨t2, rfl⟩, ⟨t3, rfl⟩⟩ := three rel
  refine call_range_3 k0 ?_ (.inl (PyProof.noPylong_small k1))
  refine args_nil ?_
  have I2 : Inv X pins σ H1 { s1 with heap := s1.heap.push { cls := .type "range", data := .fields #[.int i t1, .int j t2, .int k t3] } } := I1.kept (t' := s1.toks) fun b o e => Heap.get?_push_of_some _ e
  refine call_tuple_range (n := n) (I2.ok.hd hc) (IsRange.new ..) k2 k3 fits fun h' tk acc keep items => ?_
  have I3 : Inv X pins σ H1 { s1 with heap := h', toks := tk } := I2.kept (t' := tk) keep
  have rel3 : Vals ((List.range n).map fun x => V.int (i + (x : Nat) * k)) acc.toList := by
    have e : acc.toList.length = n := by rw [Array.length_toList]; exact items.1
    rw [← e]
    refine vals_of_get acc.toList _ fun x u hx => ?_
    obtain ⟨t, rfl⟩ := items.2 x u (by rw [← hx, Array.getElem?_toList])
    exact ⟨t, rfl⟩
  have small : ((List.range n).map fun x => V.int (i + (x : Nat) * k)).length ≤ sizeLine := by rw [List.length_map, List.length_range, sizeLine_eq]; exact fits
  refine ⟨.ref h'.objs.size, _, I3.laid (t' := tk) (fun b o e => Heap.get?_push_of_some _ e) (Nat.le_refl _) (show ObjOk X.prog X.w _ _ _ (.tup _) from ⟨small, acc.toList, rel3, ?_⟩), rfl, want _ (I3.hok.fresh (Nat.le_refl _))⟩
  rw [Array.toArray_toList]
  exact IsTup.new _ _

/-- repr of data, no other repr under way -/
theorem cr_reprD (calm : X.A.guards = some []) (room : X.A.units + 64 < cLine) : CallR X (.builtin "repr") (fun xs H Q => ∃ (a : Addr) (d : PyData), xs = [.ref a] ∧ Dp X.K H (.ref a) d ∧ d.showable = true ∧ d.hasDict = false ∧ d.depth ≤ 60 ∧ d.shown.length ≤ sizeLine ∧ Q (.str d.shown) H) := by
  intro pins s σ H xs us Q I r h
  obtain ⟨a, d, rfl, dp, sh, nd, deep, fits, q⟩ := h
  rw [Vals.ref1 r]
  obtain ⟨as, rd⟩ := Dp.reads I d (.ref a) (.ref a) dp rfl
  refine repr_of_reads' rd sh (fun z => by rw [nd] at z; cases z) calm (by omega) (fun _ _ z => z) (fun h' u tk keep => ?_) fits
  exact ⟨.str d.shown, H, I.kept (t' := tk) keep, ⟨u, rfl⟩, q⟩

/-- f(k = v, ..): keywords alone -/
theorem pe_callKw {CX : CXT} {k : Nat} {f : Addr} {fd : FuncData} {ps ks : List Str} {sp : Sp} {E : XK} {x : Str} {p pos : Pos} {kws : List Keyword} {tk : TA} {g : List Value → List Value → List Value} {gV : List V → List V → List V}
    (F : FnOk X.prog X.w X.K X.mg X.base CX k f fd ps sp) (hr : Room k X.A) (hg : Gl X x) (hm : X.mg x = some (.ref f)) (hk : PySem.W.keepIn X.K (.ref f) = true) (hb : KBinds X.K fd ps ks g gV) (hx : Passes CX X E) (hkw : PK X kws tk)
    (h1 : (backToKw pos (keywordEach kws X.env)).all (·.1.isSome) = true := by rfl) (h2 : (backToKw pos (keywordEach kws X.env)).filterMap (·.1) = ks := by rfl) (h3 : (x == ("__debug__" : Str)) = false := by decide)
    (h4 : ((backTo pos (starEach [] X.env)).any (·.1) || (backToKw pos (keywordEach kws X.env)).any (·.1.isNone)) = false := by rfl) :
    PE X (.Call (.Name x p) [] kws pos) (fun σ H Q => tk σ H fun zs H1 => sp (gV [] zs) H1 Q E) := by
  refine ⟨fun pins s σ H Q I h => ?_⟩
  refine wpAny_Call_Name_kw (ld_glob I hg hm ?_ h3)
  refine PySem.W.callWith_KW0 (h₀ := X.base) I.ok.mod.kin hk h1 (thn (hkw.run pos pins s σ H _ I h) fun ws s2 ⟨zs, H2, I2, rz, q2⟩ => ⟨I2.kIn, ?_⟩) h4
  rw [h2]
  exact run_fnk (us := []) (vs := []) F hr hb hx I2 .nil rz q2
end

/-! ### the promise of a def that is called while no repr is under way -/
structure FnG (P : Program) (w : World) (K : PySem.W.Frag) (mg : Str → Option Value) (base : Heap) (k : Nat) (f : Addr) (fd : FuncData) (ps : List Str) (sp : Sp) : Prop where
  many : ∀ vs H Q, sp vs H Q E0 → vs.length = ps.length
  goes : ∀ (A : Around) (outer : List Env) (s : Shared) (H : Hp) (args : Args) (us : List Value) (vs : List V) (Q : VK), Room k A → A.guards = some [] → Env0 P w K mg base A outer s H → BindsTo s fd args (ps.zip us) → Vals vs us → sp vs H Q E0 →
    codeAny (model P w) A (.call (.ref f) args) (CR CX0 outer P w H s Q E0) s
section
variable {P : Program} {w : World} {K : PySem.W.Frag} {mg : Str → Option Value} {base : Heap}
/-- such a def by its body -/
theorem fnG {x qual : Str} {st : Stmt} {f : Addr} {fd : FuncData} {N ps : List Str} {k : Nat} {sp : Sp} (F : FunD K x qual (defArgs st) (defBody st) (defScope st) [] [] f fd) (S : FnScope N ps (defScope st)) (many : ∀ vs H Q, sp vs H Q E0 → vs.length = ps.length)
    (body : ∀ (cdv : Value) (A : Around) (outer : List Env) (s : Shared) (H : Hp) (vs : List V) (Q : VK), Room k (A.deeper (envOfC qual (defScope st) s.heap.objs.size f cdv)) → (A.deeper (envOfC qual (defScope st) s.heap.objs.size f cdv)).guards = some [] → sp vs H Q E0 →
      ∃ t, PSs (cxOf CX0 P w K mg base N qual (defScope st) f cdv A outer s H E0) (defBody st) t ∧ t { nx := fun _ H' => Q .non H', rt := Q } (start N vs) H) : FnG P w K mg base (k + 1) f fd ps sp := by
  obtain ⟨oc, od, dV, kV, doc, pm, an, cdv, ct, osl, rfl, found, coded, -, -⟩ := F.ex
  constructor
  · exact many
  intro A outer s H args us vs Q room calm env bound rel want
  have inK : K.In s.heap := env.mod.kin.keeps fun b o e => (env.bs b o e).1
  have free : s.heap.NoLimit := env.mod.nolimit.keeps fun b o e => (env.bs b o e).1
  have seen : ∀ y ∈ ps.zip us, (defScope st).names.lookup y.1 = some .local ∨ ((defScope st).names.lookup y.1 = some .cell ∧ ((cellsFrom (s.heap.objs.size + 1) (defScope st).names []).lookup y.1).isSome = true) := by
    rintro ⟨n, v⟩ hy
    rcases S.par n (List.of_mem_zip hy).1 with z | z
    · exact Or.inl z
    · exact Or.inr ⟨z, PySem.W.cellsFrom_some _ _ _ (Or.inl z)⟩
  refine codeAny_call_function room.depth (inK _ _ found) rfl S.co S.gen rfl (PySem.W.codeRec_of inK coded) (bound _ _ _ _ ?_)
  refine wpAny_newFunctionEnv_cells S.kind seen fun e he s1 entered => ?_
  subst he
  constructor
  · exact free.keeps entered.toInCall.keep
  refine codeAny_func ?_
  obtain ⟨t, runs, reads⟩ := body cdv A outer s H vs Q (room.deeper _) calm want
  have J := inv_start (CX := CX0) (P := P) (w := w) (mg := mg) (base := base) (E := E0) S room.hd env (many _ _ _ want) rel entered
  refine wpAny_mono (runs.run [] s1 (start N vs) H _ J reads) (fun fl s' got => ?_) fun e s' got => got
  have close : ∀ {σ' : L2.St} {H' : Hp} {v : V} {u : Value}, Inv (cxOf CX0 P w K mg base N qual (defScope st) f cdv A outer s H E0) [] σ' H' s' → RelV v u → Q v H' → CE outer P w H s Q u s' := by
    intro σ' H' v u L rv qv
    exact ⟨v, H', L.os, L.bare, L.base, L.hok, rv, qv⟩
  cases fl with
  | ret u => obtain ⟨v, σ', H', L, rv, qv⟩ := got; exact close L rv qv
  | next => obtain ⟨σ', H', L, qv⟩ := got; exact close (v := .non) (u := .none) L rfl qv
  | brk => obtain ⟨_, _, _, z⟩ := got; exact z.elim
  | cont => obtain ⟨_, _, _, z⟩ := got; exact z.elim
end
section
variable {X : Cx}
/-- its call by positional arguments -/
theorem pe_callG {k : Nat} {f : Addr} {fd : FuncData} {ps : List Str} {sp : Sp} {x : Str} {p pos : Pos} {e : Expr} {es : List Expr} {t : TA} (F : FnG X.prog X.w X.K X.mg X.base k f fd ps sp) (room : Room k X.A) (calm : X.A.guards = some []) (hg : Gl X x)
    (hm : X.mg x = some (.ref f)) (kept : PySem.W.keepIn X.K (.ref f) = true) (binds : Binds X.K fd ps []) (ha : PA X (e :: es) t) (h1 : (x == ("__debug__" : Str)) = false := by decide)
    (h2 : starEach (e :: es) X.env = (false, eval e X.env) :: starEach es X.env := by rfl) (h3 : (backTo pos (starEach es X.env)).any (·.1) = false := by rfl) :
    PE X (.Call (.Name x p) (e :: es) [] pos) (fun σ H Q => t σ H fun vs H1 => sp vs H1 Q E0) := by
  refine ⟨fun pins s σ H Q I h => ?_⟩
  refine wpAny_Call_Name_kw (ld_glob I hg hm ?_ h1)
  refine PySem.W.callWith_K (h₀ := X.base) I.ok.mod.kin kept (thn (ha.run pos pins s σ H _ I h) fun us s1 ⟨vs, H1, I1, rel, want⟩ => ⟨I1.kIn, ?_⟩) h2 h3
  have same : us.length = ps.length := by rw [← rel.length]; exact F.many _ _ _ want
  have b := binds s1 us I1.kIn (by rw [List.append_nil]; exact same)
  rw [List.append_nil] at b
  refine wpAny_call (codeAny_mono (F.goes X.A X.stack s1 H1 ⟨us, []⟩ us vs Q room calm I1.env0 b rel want) fun r s' got => ?_)
  match r, got with
  | .error _, got => exact got.elim
  | .ok (.ret u), got => exact I1.after got
  | .ok .next, got => exact got.elim
  | .ok .brk, got => exact got.elim
  | .ok .cont, got => exact got.elim
end
end Lb

set_option maxHeartbeats 2000000
/-! the law's call at the top, for a def by FnG -/
namespace Lb
open PySem PySem.Spec PyProof.Rows L2
section
variable {P : Program} {w : World} {K : PySem.W.Frag} {mg mb : Str → Option Value} {k : Nat} {fa a : Addr} {fd : FuncData} {x : Str} {sp : Sp} {s₁ : Shared} {vs : List Value} {ns : List Int}
/-- what the call must end with -/
def Ends1 (s₁ : Shared) (r : Result) (s' : Shared) : Prop := r = .ok (.ret (.bool true)) ∧ OldK s₁.heap s'.heap ∧ s'.os = s₁.os ∧ AllBare s'.gens
/-- over an abstract heap that tracks the script at most -/
theorem callOver (H : Hp) (only : Only H) (script : SqL K H a (ns.map V.int)) (held : HOk P w H s₁.heap) (one : ∀ b, H b ≠ none → b = a) (off : H a ≠ none → K.lookup a = none)
    (inK : K.In s₁.heap) (glob : s₁.heap.Ns mainGlobals mg) (blt : s₁.heap.Ns builtinsNs mb) (boot : ∀ x : Str, x ≠ "__name__" → mb x = bootBuiltins x) (lim : s₁.heap.NoLimit) (noGens : s₁.gens = #[])
    (obj : s₁.heap.get? a = some { cls := .type "list", data := .seq vs.toArray }) (room : Room k callerA) (F : ∀ base : Heap, K.In base → base.Ns mainGlobals mg → FnG P w K mg base k fa fd [x] sp)
    (bind : ∀ (s : Shared) (u : Value), BindsTo s fd ⟨[u], []⟩ [(x, u)]) (want : sp [.ref a] H (fun v _ => v = .bl true) E0) : codeAny (model P w) callerA (.call (.ref fa) ⟨[.ref a], []⟩) (Ends1 s₁) s₁ := by
  -- what is not the script is not tracked
  have bare : ∀ {b : Addr}, b ≠ a → H b = none := fun {b} ne => by
    rcases only b with z | ⟨o, xs, z⟩
    · exact z
    · exact absurd (one b (by rw [z]; exact fun q => nomatch q)) ne
  have under : ∀ {b : Addr} {o : Obj}, s₁.heap.get? b = some o → H b = none → (hidT s₁.heap H).get? b = some o := fun e n => hidT_get e n
  have dicts : ∀ {b : Addr} {m : Str → Option Value}, s₁.heap.Ns b m → (hidT s₁.heap H).Ns b m := by
    rintro b m ⟨o, es, ep, e, d, more⟩
    have ne : b ≠ a := by
      rintro rfl
      rw [obj] at e
      cases e
      cases d
    exact ⟨o, es, ep, under e (bare ne), d, more⟩
  have inBase : K.In (hidT s₁.heap H) := by
    intro b o e
    refine under (inK b o e) ?_
    by_cases ne : b = a
    · subst ne
      cases q : H b with
      | none => rfl
      | some u =>
        have z := off (by rw [q]; exact fun q => nomatch q)
        have z2 : K.lookup b = some o := e
        rw [z] at z2
        cases z2
    · exact bare ne
  obtain ⟨mc, l1, l2⟩ := lim
  have modul : Mod K mg (hidT s₁.heap H) := ⟨inBase, dicts glob, ⟨mb, dicts blt, boot⟩, ⟨mc, dicts l1, l2⟩⟩
  have env : Env0 P w K mg (hidT s₁.heap H) callerA [] s₁ H :=
    { frames := rfl, mod := modul, bs := fun _ _ e => of_hidT e, bsz := Nat.le_of_eq (hidT_size _ _), funs := trivial, frf := fun _ z => (List.not_mem_nil z).elim, hok := held, bare := .of_eq noGens }
  refine codeAny_mono ((F _ inBase (dicts glob)).goes callerA [] s₁ H ⟨[.ref a], []⟩ [.ref a] [.ref a] _ room rfl env (bind s₁ (.ref a)) (.cons rfl .nil) want) fun r s' got => ?_
  match r, got with
  | .error _, got => exact got.elim
  | .ok .next, got => exact got.elim
  | .ok .brk, got => exact got.elim
  | .ok .cont, got => exact got.elim
  | .ok (.ret u), got =>
    obtain ⟨v, H', sameOs, bare', un, held', rel, res⟩ := got
    have ev : v = .bl true := res
    subst ev
    have eu : u = Value.bool true := rel
    subst eu
    refine ⟨rfl, OldK.of_keep fun b o e => ?_, sameOs, bare'⟩
    rcases only b with z | ⟨ob, xs, z⟩
    · exact un.keep b o e z List.not_mem_nil List.not_mem_nil
    · obtain ⟨e1, _⟩ := held b _ z
      obtain ⟨e2, _⟩ := held' b _ (un.frzs b ob _ z)
      rw [e] at e1
      cases e1
      exact e2
/-- THE LAW's CALL -/
theorem callLaw (inK : K.In s₁.heap) (glob : s₁.heap.Ns mainGlobals mg) (blt : s₁.heap.Ns builtinsNs mb) (boot : ∀ x : Str, x ≠ "__name__" → mb x = bootBuiltins x) (lim : s₁.heap.NoLimit) (noGens : s₁.gens = #[])
    (obj : s₁.heap.get? a = some { cls := .type "list", data := .seq vs.toArray }) (nums : IntsAre vs ns) (len : ns.length ≤ sizeLine) (room : Room k callerA) (F : ∀ base : Heap, K.In base → base.Ns mainGlobals mg → FnG P w K mg base k fa fd [x] sp)
    (bind : ∀ (s : Shared) (u : Value), BindsTo s fd ⟨[u], []⟩ [(x, u)]) (want : ∀ H : Hp, Only H → SqL K H a (ns.map V.int) → sp [.ref a] H (fun v _ => v = .bl true) E0) : codeAny (model P w) callerA (.call (.ref fa) ⟨[.ref a], []⟩) (Ends1 s₁) s₁ := by
  have rel := vals_ints nums
  cases at_ : K.lookup a with
  | some o =>
    have same := inK a o at_
    rw [obj] at same
    injection same with same
    subst same
    have only : Only (fun _ => none) := fun _ => Or.inl rfl
    have script : SqL K (fun _ => none) a (ns.map V.int) := Or.inr ⟨_, vs.toArray, _, at_, rfl, rfl, rfl, by rw [List.size_toArray, nums.length]; exact len, by simpa using rel⟩
    exact callOver (fun _ => none) only script (fun _ _ z => nomatch z) (fun _ z => (z rfl).elim) (fun z => (z rfl).elim) inK glob blt boot lim noGens obj room F bind (want _ only script)
  | none =>
    let o : Obj := { cls := .type "list", data := .seq vs.toArray }
    let H : Hp := upd (fun _ => none) a (.frz o (.lst (ns.map V.int)))
    have here : H a = some (.frz o (.lst (ns.map V.int))) := upd_same
    have there : ∀ {b : Addr}, b ≠ a → H b = none := fun ne => upd_ne ne
    have only : Only H := fun b => by
      by_cases ne : b = a
      · subst ne; exact Or.inr ⟨_, _, here⟩
      · exact Or.inl (there ne)
    have script : SqL K H a (ns.map V.int) := Or.inl (Or.inr ⟨o, here⟩)
    refine callOver H only script (fun b u z => ?_) (fun b z => ?_) (fun _ => at_) inK glob blt boot lim noGens obj room F bind (want _ only script)
    · by_cases ne : b = a
      · subst ne
        rw [here] at z
        injection z with z
        subst z
        exact ⟨obj, by rw [List.length_map]; exact len, vs, _, rel, obj⟩
      · rw [there ne] at z
        cases z
    · by_cases ne : b = a
      · exact ne
      · exact absurd (there ne) z
end
/-- the end of a law whose def is known by FnG -/
theorem walkG {l : PySem.W.OpenLaw} {n k : Nat} {q : Program} {loose : List Str} {XP : (Str → Option Value) → Heap → Prop} {YP : World → Heap → Prop} {d : DefRec} {x : Str} (hn : l.most = some n) (hn2 : n ≤ sizeLine) (hdf : d.params.defaults = []) (room : Room k callerA)
    (F : ∀ (w : World) (mg : Str → Option Value) (fa : Addr) (h : Heap), YP w h → h.Ns mainGlobals mg → mg d.name = some (.ref fa) →
      ∃ (K : PySem.W.Frag) (fd : FuncData) (sp : Sp), K.In h ∧ (∀ (s : Shared) (u : Value), BindsTo s fd ⟨[u], []⟩ [(x, u)]) ∧ (∀ (H : Hp) (a : Addr) (ns : List Int), ns.length ≤ n → Only H → SqL K H a (ns.map V.int) → sp [.ref a] H (fun v _ => v = .bl true) E0) ∧
        ∀ base : Heap, K.In base → base.Ns mainGlobals mg → FnG l.prog w K mg base k fa fd [x] sp) : PySem.W.WalkO q loose XP YP l.row.toRowW d [] (fun f vs => PySem.call f vs) := by
  refine Att.attach_call hn hdf fun w s₀ s₁ mg mb fa o pm cd doc a vs ns G Y ho hd hcd hmg hobj hints hlen hg => ?_
  obtain ⟨K, fd, sp, inK, bind, want, goes⟩ := F w mg fa _ Y G.T.g hmg
  exact callLaw inK G.T.g G.T.b G.T.builtins G.T.nolimit hg hobj hints (Nat.le_trans hlen hn2) room goes bind fun H only script => want H a ns hlen only script
end Lb

set_option maxHeartbeats 2000000
/-! promises by name, calls by promises, what the top has written, small words for heaps -/
namespace Lb
open PySem PySem.Spec PyProof.Rows L2

/-! ### heaps -/
theorem same_upd {H : Hp} {p : Addr} {o : HO} (h : H p = none) : Same H (upd H p o) := fun b x e => by
  rw [upd_ne (ne_of_none e h)]
  exact e
theorem Same.over {H H2 : Hp} {p : Addr} {o : HO} (s : Same H H2) (h : H p = none) : Same H (upd H2 p o) := fun b x e => by
  rw [upd_ne (ne_of_none e h)]
  exact s b x e
theorem Same.new {H H2 : Hp} {p : Addr} {o : HO} (s : Same H H2) (h : H2 p = none) : Same H (upd H2 p o) := s.trans (same_upd h)
/-- a tuple of ints -/
abbrev Tu (H : Hp) (a : Addr) (ns : List Int) : Prop := H a = some (.tup (ns.map V.int))
theorem Tu.sq {K : PySem.W.Frag} {H : Hp} {a : Addr} {ns : List Int} (h : Tu H a ns) : SqT K H a (ns.map V.int) := .inl (.inl h)
theorem sq_lst {K : PySem.W.Frag} {H : Hp} {a : Addr} {xs : List V} (h : H a = some (.lst xs)) : SqL K H a xs := .inl (.inl h)
theorem sq_tup {K : PySem.W.Frag} {H : Hp} {a : Addr} {xs : List V} (h : H a = some (.tup xs)) : SqT K H a xs := .inl (.inl h)
theorem map_at {α : Type} {f : α → V} {l : List α} {i : Nat} {y : V} (h : (l.map f)[i]? = some y) : ∃ z, l[i]? = some z ∧ y = f z := by
  rw [List.getElem?_map] at h
  cases e : l[i]? with
  | none => rw [e] at h; cases h
  | some z => rw [e] at h; exact ⟨z, rfl, (Option.some.inj h).symm⟩
theorem take_more {α : Type} {l : List α} {i : Nat} {x : α} (h : l[i]? = some x) : l.take (i + 1) = l.take i ++ [x] := by
  rw [List.take_add_one, h]; rfl
theorem rgV_rg (a b : Int) : rgV a b = (LbM.rg a (b - a).toNat).map V.int := by
  unfold rgV LbM.rg
  rw [List.map_map]; rfl
theorem small9 {n : Nat} (h : n ≤ 100) : n ≤ sizeLine := Nat.le_of_lt (small1000 (by omega))

/-! ### a promise by its name -/
structure Pr (P : Program) (w : World) (K : PySem.W.Frag) (mg : Str → Option Value) (base : Heap) (k : Nat) (x : Str) (ps : List Str) (sp : Sp) : Prop where
  ex : ∃ f fd, FnOk P w K mg base CX0 k f fd ps sp ∧ mg x = some (.ref f) ∧ PySem.W.keepIn K (.ref f) = true ∧ Binds K fd ps []
section
variable {X : Cx} {k : Nat} {x : Str} {ps : List Str} {sp : Sp} {p pos : Pos} {e : Expr} {es : List Expr} {t : TA}
theorem pe_callP (G : Pr X.prog X.w X.K X.mg X.base k x ps sp) (hr : Room k X.A) (ha : PA X (e :: es) t) (hg : Gl X x := by rfl) (h1 : (x == ("__debug__" : Str)) = false := by decide)
    (h2 : starEach (e :: es) X.env = (false, eval e X.env) :: starEach es X.env := by rfl) (h3 : (backTo pos (starEach es X.env)).any (·.1) = false := by rfl) :
    PE X (.Call (.Name x p) (e :: es) [] pos) (tCall sp [] E0 t) := by
  obtain ⟨f, fd, F, hm, hk, hb⟩ := G.ex
  exact pe_call F hr hg hm hk hb .nil pass0 ha h1 h2 h3
end

/-! ### what the top has written -/
def Has (K : PySem.W.Frag) (mg : Str → Option Value) (x : Str) (st : Stmt) : Prop := ∃ f fd, FnP K x st f fd ∧ mg x = some (.ref f)
section
variable {P : Program} {w : World} {K : PySem.W.Frag} {mg : Str → Option Value} {base : Heap} {x : Str} {st : Stmt} {k : Nat} {N ps : List Str} {sp : Sp}
theorem prD_of (H : Has K mg x st) (S : FnScope N ps (defScope st)) (many : ∀ vs H Q E, sp vs H Q E → vs.length = ps.length)
    (body : ∀ (f : Addr) (cdv : Value) (A : Around) (outer : List Env) (s : Shared) (H : Hp) (vs : List V) (Q : VK) (E : XK), Room k (A.deeper (envOfC x (defScope st) s.heap.objs.size f cdv)) → sp vs H Q E →
      ∃ t, PSs (cxOf CX0 P w K mg base N x (defScope st) f cdv A outer s H E).nox (defBody st) t ∧ t { nx := fun _ H' => Q .non H', rt := Q } (start N vs) H) : ∃ f fd, FnOk P w K mg base CX0 (k + 1) f fd ps sp ∧ mg x = some (.ref f) ∧ FnP K x st f fd := by
  obtain ⟨f, fd, F, hm⟩ := H
  refine ⟨f, fd, ?_, hm, F⟩
  refine FunD.ok F S many fun cdv A outer s H vs Q E hr h => ?_
  obtain ⟨t, h1, h2⟩ := body f cdv A outer s H vs Q E hr h
  exact ⟨t, h1.nox, h2⟩
theorem Pr.ofD (bind : ∀ (kV doc pm : Value) (an : Option Addr) (cdv ct : Value) (us : List Value), us.length = ps.length → bindArgs (PySem.W.fnOf x x (defArgs st) (defBody st) (defScope st) .none kV doc pm an cdv ct) ⟨us, []⟩ = pure (ps.zip us))
    (D : ∃ f fd, FnOk P w K mg base CX0 k f fd ps sp ∧ mg x = some (.ref f) ∧ FnP K x st f fd) : Pr P w K mg base k x ps sp := by
  obtain ⟨f, fd, G, hm, F⟩ := D
  exact ⟨f, fd, G, hm, F.kp, FunD.bindsN F bind⟩
theorem pr_of (H : Has K mg x st) (S : FnScope N ps (defScope st)) (many : ∀ vs H Q E, sp vs H Q E → vs.length = ps.length)
    (bind : ∀ (kV doc pm : Value) (an : Option Addr) (cdv ct : Value) (us : List Value), us.length = ps.length → bindArgs (PySem.W.fnOf x x (defArgs st) (defBody st) (defScope st) .none kV doc pm an cdv ct) ⟨us, []⟩ = pure (ps.zip us))
    (body : ∀ (f : Addr) (cdv : Value) (A : Around) (outer : List Env) (s : Shared) (H : Hp) (vs : List V) (Q : VK) (E : XK), Room k (A.deeper (envOfC x (defScope st) s.heap.objs.size f cdv)) → sp vs H Q E →
      ∃ t, PSs (cxOf CX0 P w K mg base N x (defScope st) f cdv A outer s H E).nox (defBody st) t ∧ t { nx := fun _ H' => Q .non H', rt := Q } (start N vs) H) : Pr P w K mg base (k + 1) x ps sp := Pr.ofD bind (prD_of H S many body)
/-- how keywords alone bind: h by rfl -/
theorem kb_of {f : Addr} {fd : FuncData} {ks : List Str} {g : List Value → List Value → List Value} {gV : List V → List V → List V} (F : FnP K x st f fd)
    (h : ∀ (kV doc pm : Value) (an : Option Addr) (cdv ct : Value) (us ws : List Value), (g us ws).length = ps.length → bindArgs (PySem.W.fnOf x x (defArgs st) (defBody st) (defScope st) .none kV doc pm an cdv ct) ⟨us, ks.zip ws⟩ = pure (ps.zip (g us ws)))
    (rel : ∀ {vs : List V} {us : List Value} {zs : List V} {ws : List Value}, Vals vs us → Vals zs ws → Vals (gV vs zs) (g us ws)) : KBinds K fd ps ks g gV := by
  obtain ⟨oc, od, dV, kV, doc, pm, an, cdv, ct, osl, rfl, lk, hcd, hD, hK⟩ := F.ex
  rcases hD with ⟨_, rfl⟩ | ⟨z, _⟩
  · exact ⟨fun s us ws _ hl => .of_eq (h kV doc pm an cdv ct us ws hl), rel⟩
  · exact absurd rfl z
end
structure Txt (K : PySem.W.Frag) (mg : Str → Option Value) : Prop where
  is_integer : Has K mg "is_integer" s_is_integer
  is_count : Has K mg "is_count" s_is_count
  is_list : Has K mg "is_list" s_is_list
  is_order : Has K mg "is_order" s_is_order
  want_many : Has K mg "want_many" s_want_many
  want_order : Has K mg "want_order" s_want_order
  want_alike : Has K mg "want_alike" s_want_alike
  is_lower : Has K mg "is_lower" s_is_lower
  want_two : Has K mg "want_two" s_want_two
  is_below : Has K mg "is_below" s_is_below
  is_corner : Has K mg "is_corner" s_is_corner
  want_corner : Has K mg "want_corner" s_want_corner
  count_of : Has K mg "count_of" s_count_of
  counted : Has K mg "counted" s_counted
  least_count : Has K mg "least_count" s_least_count
  most_count : Has K mg "most_count" s_most_count
  least_of : Has K mg "least_of" s_least_of
  least_with : Has K mg "least_with" s_least_with
  law_pot : Has K mg "_law_pot" s_law_pot
  law_draw : Has K mg "_law_draw" s_law_draw
  law_pick : Has K mg "_law_pick" s_law_pick
  law_mixed : Has K mg "_law_mixed" s_law_mixed
  law_order : Has K mg "_law_order" s_law_order
  law_all : Has K mg "_law_all" s_law_all
  law_count : Has K mg "_law_count" s_law_count
  law_corners : Has K mg "_law_corners" s_law_corners
  law_lower : Has K mg "_law_lower" s_law_lower
  law_least : Has K mg "_law_least" s_law_least
  law_one_right : Has K mg "_law_one_right" s_law_one_right
  law_right : Has K mg "_law_right" s_law_right
  law : Has K mg "law" s_law
  most1 : ∃ t, mg "MOST_THINGS_basics" = some (.int 9 t)
  most2 : ∃ t, mg "MOST_THINGS_corners" = some (.int 9 t)
  isinstance : mg "isinstance" = none
  int : mg "int" = none
  bool : mg "bool" = none
  list : mg "list" = none
  tuple : mg "tuple" = none
  len : mg "len" = none
  all : mg "all" = none
  any : mg "any" = none
  sorted : mg "sorted" = none
  range : mg "range" = none
  zip : mg "zip" = none
  max : mg "max" = none
  min : mg "min" = none
  abs : mg "abs" = none
  divmod : mg "divmod" = none
  sum : mg "sum" = none
  repr : mg "repr" = none
end Lb

set_option maxHeartbeats 2000000
/-! ints as data: equal, shown -/
namespace Lb
open PySem PySem.Spec PyProof.Rows L2
theorem dp_ints {K : PySem.W.Frag} {H : Hp} : ∀ ns : List Int, DpAll K H (ns.map V.int) (ns.map PyData.int)
  | [] => .nil
  | n :: ns => .cons (.int n) (dp_ints ns)
theorem can_ints : ∀ ns : List Int, PyData.canLayAll0 (ns.map PyData.int) = true
  | [] => rfl
  | n :: ns => by
    show (PyData.canLay0 (.int n) && PyData.canLayAll0 (ns.map PyData.int)) = true
    rw [can_ints ns]; rfl
theorem depth_ints : ∀ ns : List Int, PyData.depthAll (ns.map PyData.int) ≤ 1
  | [] => by decide
  | n :: ns => by
    have := depth_ints ns
    show max (PyData.depth (.int n)) (PyData.depthAll (ns.map PyData.int)) ≤ 1
    have e : PyData.depth (.int n) ≤ 1 := Nat.zero_le _
    omega
theorem shaped_ints (ns : List Int) : SeqAt.shaped (.list (ns.map PyData.int)) = true := by
  unfold SeqAt.shaped
  have h1 : PyData.canLay0 (.list (ns.map PyData.int)) = true := can_ints ns
  have h2 : PyData.depth (.list (ns.map PyData.int)) ≤ 64 := by
    have := depth_ints ns
    show PyData.depthAll (ns.map PyData.int) + 1 ≤ 64
    omega
  rw [h1, decide_eq_true h2]; rfl
theorem eqv_ints (ns : List Int) : PyData.eqv (.list (ns.map PyData.int)) (.list (ns.map PyData.int)) = true := SeqAt.eqv_refl _ (can_ints ns)
theorem sorted_one : ∀ {l m : List Int}, l.length = m.length → LbM.Under l m → LbM.Under m l → l = m
  | [], [], _, _, _ => rfl
  | [], _ :: _, h, _, _ => by simp at h
  | _ :: _, [], h, _, _ => by simp at h
  | a :: l, b :: m, h, u, v => by
    have e : a = b := Int.le_antisymm u.1 v.1
    rw [e, sorted_one (by simpa using h) u.2 v.2]
theorem sorted_uniq {l m : List Int} (p : l.Perm m) (hl : l.Pairwise (· ≤ ·)) (hm : m.Pairwise (· ≤ ·)) : l = m :=
  sorted_one p.length_eq (LbM.ge_under p.length_eq hl hm fun t => Nat.le_of_eq (LbM.ge_perm p)) (LbM.ge_under p.length_eq.symm hm hl fun t => Nat.le_of_eq (LbM.ge_perm p).symm)
theorem rg_sorted (a : Int) : ∀ n : Nat, (LbM.rg a n).Pairwise (· ≤ ·)
  | 0 => .nil
  | n + 1 => by
    rw [LbM.rg_succ, List.pairwise_append]
    refine ⟨rg_sorted a n, List.pairwise_singleton _ _, fun x hx y hy => ?_⟩
    have h1 := (LbM.mem_rg.mp hx).2
    have h2 : y = a + (n : Int) := by simpa using hy
    omega
end Lb

set_option maxHeartbeats 2000000
/-! the basics: integers, counts, lists, orders -/
namespace Lb
open PySem PySem.Spec PyProof.Rows L2
section
variable {P : Program} {w : World} {K : PySem.W.Frag} {mg : Str → Option Value} {base : Heap}
theorem bl_t {p : Prop} [Decidable p] (h : p) : V.bl (decide p) = V.bl true := congrArg V.bl (decide_eq_true h)
theorem bl_f {p : Prop} [Decidable p] (h : ¬ p) : V.bl (decide p) = V.bl false := congrArg V.bl (decide_eq_false h)
theorem bl_t' {b : Bool} (h : b = true) : V.bl b = V.bl true := congrArg V.bl h
theorem Qt {Q : VK} {H : Hp} {p : Prop} [Decidable p] (h : p) (q : Q (.bl true) H) : Q (.bl (decide p)) H := by rw [decide_eq_true h]; exact q
/-! ### is_integer, is_count: asked of ints alone -/
def spInt : Sp := fun vs H Q _ => ∃ i : Int, vs = [.int i] ∧ Q (.bl true) H
theorem scInt : FnScope ["value"] ["value"] (defScope s_is_integer) := ⟨rfl, rfl, rfl, by decide +kernel, rfl, by decide +kernel, by decide +kernel⟩
theorem pr_is_integer (T : Txt K mg) : Pr P w K mg base 1 "is_integer" ["value"] spInt := by
  refine pr_of T.is_integer scInt (fun vs H Q E h => ?_) (fun _ _ _ _ _ _ us hl => match us, hl with | [_], _ => rfl) (fun f cdv A outer s H vs Q E hr h => ?_)
  · obtain ⟨i, rfl, _⟩ := h
    rfl
  · obtain ⟨i, rfl, q⟩ := h
    refine ⟨_, pss_one (ps_ret (pe_and (pe_callB call_isi rfl T.isinstance boot_isinstance (pa_cons (pv 0) (pa_cons (pe_bltn (v := .ty "int") rfl T.int PyProof.Rows.boot_int rfl) pa_nil)))
      (pe_one (pe_not (pe_callB call_isi rfl T.isinstance boot_isinstance (pa_cons (pv 0) (pa_cons (pe_bltn (v := .ty "bool") rfl T.bool PyProof.Rows.boot_bool rfl) pa_nil))))))), ?_⟩
    refine ⟨_, rfl, _, _, .type "int", _, true, rfl, .ty _, .base (.int _), kit_ty (by decide +kernel), true, rfl, iteT ?_⟩
    exact ⟨_, rfl, _, _, .type "int", _, false, rfl, .ty _, .base (.int _), kit_ty (by decide +kernel), false, rfl, q⟩
def spCount : Sp := fun vs H Q _ => ∃ i : Int, vs = [.int i] ∧ 0 ≤ i ∧ Q (.bl true) H
theorem scCount : FnScope ["value"] ["value"] (defScope s_is_count) := ⟨rfl, rfl, rfl, by decide +kernel, rfl, by decide +kernel, by decide +kernel⟩
theorem pr_is_count (T : Txt K mg) : Pr P w K mg base 2 "is_count" ["value"] spCount := by
  refine pr_of T.is_count scCount (fun vs H Q E h => ?_) (fun _ _ _ _ _ _ us hl => match us, hl with | [_], _ => rfl) (fun f cdv A outer s H vs Q E hr h => ?_)
  · obtain ⟨i, rfl, _⟩ := h
    rfl
  · obtain ⟨i, rfl, i0, q⟩ := h
    refine ⟨_, pss_one (ps_ret (pe_and (pe_callP (pr_is_integer T) hr (pa_cons (pv 0) pa_nil)) (pe_one (pe_cmp (pc_ge (pv 0) pe_int) rfl)))), ?_⟩
    refine ⟨_, rfl, i, rfl, true, rfl, iteT ?_⟩
    refine ⟨_, rfl, i, 0, rfl, rfl, ?_⟩
    exact Qt (p := 0 ≤ i) i0 q
/-! ### is_list: asked of tuples alone -/
def spList : Sp := fun vs H Q _ => ∃ (a : Addr) (xs : List V), vs = [.ref a] ∧ H a = some (.tup xs) ∧ ∀ H', Same H H' → Q (.bl true) H'
theorem scList : FnScope ["value"] ["value"] (defScope s_is_list) := ⟨rfl, rfl, rfl, by decide +kernel, rfl, by decide +kernel, by decide +kernel⟩
theorem pr_is_list (T : Txt K mg) : Pr P w K mg base 1 "is_list" ["value"] spList := by
  refine pr_of T.is_list scList (fun vs H Q E h => ?_) (fun _ _ _ _ _ _ us hl => match us, hl with | [_], _ => rfl) (fun f cdv A outer s H vs Q E hr h => ?_)
  · obtain ⟨i, _, rfl, _⟩ := h
    rfl
  · obtain ⟨a, xs, rfl, ha, q⟩ := h
    refine ⟨_, pss_one (ps_ret (pe_callB call_isiT rfl T.isinstance boot_isinstance (pa_cons (pv 0) (pa_cons (pe_tup (pa_cons (pe_bltn (v := .ty "list") rfl T.list PyProof.Rows.boot_list rfl) (pa_cons (pe_bltn (v := .ty "tuple") rfl T.tuple PyProof.Rows.boot_tuple rfl) pa_nil))) pa_nil)))), ?_⟩
    refine ⟨_, rfl, (by show 2 ≤ sizeLine; decide), fun p hp => ?_⟩
    have h2 : (upd H p (.tup [.ty "list", .ty "tuple"])) a = some (.tup xs) := same_upd hp _ _ ha
    refine ⟨_, p, _, .type "tuple", [.type "list", .type "tuple"], true, rfl, upd_same, .cons (.ty _) (.cons (.ty _) .nil), .base (.tup h2), ?_, q _ (same_upd hp)⟩
    exact kitAny_cons (b := false) (kit_ty (by decide +kernel)) (fun _ => kitAny_cons (b := true) (kit_ty (by decide +kernel)) (fun z => by cases z) fun _ => rfl) fun z => by cases z
/-! ### is_order: asked of orders alone -/
structure IsOrd (ns : List Int) : Prop where
  o : LbM.Ord ns.length ns
  n1 : 1 ≤ ns.length
  n9 : ns.length ≤ 9
def spOrder : Sp := fun vs H Q _ => ∃ (a : Addr) (ns : List Int), vs = [.ref a] ∧ Tu H a ns ∧ IsOrd ns ∧ ∀ H', Same H H' → Q (.bl true) H'
theorem scOrder : FnScope ["value", "thing"] ["value"] (defScope s_is_order) := ⟨rfl, rfl, rfl, by decide +kernel, rfl, by decide +kernel, by decide +kernel⟩
theorem pr_is_order (T : Txt K mg) : Pr P w K mg base 3 "is_order" ["value"] spOrder := by
  refine pr_of T.is_order scOrder (fun vs H Q E h => ?_) (fun _ _ _ _ _ _ us hl => match us, hl with | [_], _ => rfl) (fun f cdv A outer s H vs Q E hr h => ?_)
  · obtain ⟨a, _, rfl, _⟩ := h
    rfl
  · obtain ⟨a, ns, rfl, ha, O, q⟩ := h
    obtain ⟨t9, mg9⟩ := T.most1
    refine ⟨_, pss_cons (ps_if (PW.pt (pw_or (pt_not (pt_val (pe_callP (pr_is_list T) (hr.mono (by decide)) (pa_cons (pv 0) pa_nil))))
        (pw_or (pt_not (pt_chain op_le op_le pe_int (pe_callB call_len_seq rfl T.len PySem.boot_len (pa_cons (pv 0) pa_nil)) (pe_glob (v := .int 9) rfl mg9 ⟨_, rfl⟩)))
        (pw_or1 (pt_not (pt_val (pe_callB (cr_all rfl) rfl T.all boot_all (pa_cons (pe_lc (own := [("thing", 1)]) (g := gName 1) (tt := tYes) rfl scOrder.nd (pi_tup (pv 0)) (blkOk_by (N := ["value", "thing"]) (sc := defScope s_is_order) (by decide +kernel))
          (fun _ _ _ _ _ => pg_name (i := 1) scOrder.nd rfl (Or.inl rfl)) (fun _ _ _ _ _ => pts_nil) (fun _ _ _ _ _ => pe_callP (pr_is_integer T) (hr.mono (by decide)) (pa_cons (pv 1) pa_nil))) pa_nil))))))))
        (pss_one (ps_ret pe_bl)) pss_nil)
      (pss_one (ps_ret (pe_cmpR (op_eqD hr.units) (pe_callB cr_sortTup rfl T.sorted boot_sorted (pa_cons (pv 0) pa_nil))
        (pe_listRg rfl rfl T.list (prg_2 rfl T.range pe_int (pe_op op_add (pe_callB call_len_seq rfl T.len PySem.boot_len (pa_cons (pv 0) pa_nil)) pe_int))) (nomark _)))), ?_⟩
    -- is_list
    refine ⟨_, rfl, a, _, rfl, ha, fun H1 s1 => ⟨true, rfl, iteF ?_⟩⟩
    have a1 : Tu H1 a ns := s1 _ _ ha
    -- 1 <= len(value) <= 9
    have ln : ((ns.map V.int).length : Int) = ns.length := by rw [List.length_map]
    refine ⟨_, rfl, a, _, rfl, .inr a1.sq, _, _, rfl, rfl, true, bl_t (by rw [ln]; have := O.n1; omega), iteT ?_⟩
    refine ⟨_, _, rfl, rfl, true, bl_t (by rw [ln]; have := O.n9; omega), iteF ?_⟩
    -- all([is_integer(thing) for thing in value])
    refine ⟨_, rfl, a, rfl, ⟨_, a1.sq⟩, fun D nD => ?_⟩
    refine lc_tup (K := K) (a := a) (xs := ns.map V.int) (fun i H' => Same H1 H' ∧ H' D = some (.lst ((List.replicate i true).map V.bl))) ⟨same_upd nD, upd_same⟩ (fun i H' _ h => (show Tu H' a ns from h.1 _ _ a1).sq) ?_ ?_
    · rintro i x H' hi ⟨s2, d2⟩
      obtain ⟨z, hz, rfl⟩ := map_at hi
      have il : i < ns.length := (List.getElem?_eq_some_iff.mp hz).1
      refine ⟨rfl, ?_⟩
      refine ⟨_, rfl, z, rfl, _, d2, ?_, Same.over s2 nD, ?_⟩
      · rw [List.length_map, List.length_replicate]
        have := O.n9
        exact small1000 (by omega)
      · rw [upd_same, List.replicate_succ', List.map_append]
        rfl
    · rintro H' ⟨s2, d2⟩
      refine ⟨D, _, rfl, sq_lst d2, true, bl_t' ?_, iteF ?_⟩
      · simp
      have a2 : Tu H' a ns := s2 _ _ a1
      -- sorted(value) == list(range(1, len(value) + 1))
      refine ⟨_, rfl, a, ns, rfl, a2.sq, (by have := O.n9; omega), fun ms p mp ms1 np => ?_⟩
      have a3 : Tu (upd H' p (.lst (ms.map V.int))) a ns := same_upd np _ _ a2
      refine ⟨_, rfl, a, _, rfl, .inr a3.sq, _, _, rfl, rfl, 1, _, rfl, rfl, ?_, fun r nr => ?_⟩
      · rw [ln]
        have := O.n9
        exact RgOk.of_le (by omega) (by omega) (by omega) (by omega)
      · have e1 : rgV 1 (((ns.map V.int).length : Int) + 1) = (LbM.rg 1 ns.length).map V.int := by
          rw [rgV_rg, ln]
          congr 2
          omega
        have e2 : ms = LbM.rg 1 ns.length := sorted_uniq (mp.trans O.o) ms1 (rg_sorted _ _)
        subst e2
        have pr : p ≠ r := ne_of_none upd_same nr
        refine ⟨_, _, .lst (sq_lst (xs := (LbM.rg 1 ns.length).map V.int) ?_) (dp_ints _), .lst (sq_lst upd_same) (by rw [e1]; exact dp_ints _), shaped_ints _, shaped_ints _, ?_⟩
        · rw [upd_ne pr, upd_same]
        · rw [eqv_ints]
          exact q _ (s1.trans (Same.new (Same.new s2 np) nr))
end
end Lb

set_option maxHeartbeats 2000000
/-! what is wanted of arguments; corners -/
namespace Lb
open PySem PySem.Spec PyProof.Rows L2
section
variable {P : Program} {w : World} {K : PySem.W.Frag} {mg : Str → Option Value} {base : Heap}
/-! ### want_many, want_order, want_alike -/
def spWMany : Sp := fun vs H Q _ => ∃ v lo hi : Int, vs = [.int v, .int lo, .int hi] ∧ 0 ≤ v ∧ lo ≤ v ∧ v ≤ hi ∧ Q .non H
theorem scWMany : FnScope ["value", "low", "high"] ["value", "low", "high"] (defScope s_want_many) := ⟨rfl, rfl, rfl, by decide +kernel, rfl, by decide +kernel, by decide +kernel⟩
theorem pr_want_many (T : Txt K mg) : Pr P w K mg base 3 "want_many" ["value", "low", "high"] spWMany := by
  refine pr_of T.want_many scWMany (fun vs H Q E h => ?_) (fun _ _ _ _ _ _ us hl => match us, hl with | [_, _, _], _ => rfl) (fun f cdv A outer s H vs Q E hr h => ?_)
  · obtain ⟨_, _, _, rfl, _⟩ := h
    rfl
  · obtain ⟨v, lo, hi, rfl, v0, l, u, q⟩ := h
    refine ⟨_, pss_one (ps_if (PW.pt (pw_or (pt_not (pt_val (pe_callP (pr_is_count T) hr (pa_cons (pv 0) pa_nil)))) (pw_or1 (pt_not (pt_chain op_le op_le (pv 1) (pv 0) (pv 2)))))) pss_never pss_nil), ?_⟩
    refine ⟨_, rfl, v, rfl, v0, true, rfl, iteF ?_⟩
    refine ⟨_, rfl, _, rfl, lo, v, rfl, rfl, true, bl_t l, iteT ?_⟩
    exact ⟨_, rfl, v, hi, rfl, rfl, true, bl_t u, iteF q⟩
def spWOrder : Sp := fun vs H Q _ => ∃ (a : Addr) (ns : List Int), vs = [.ref a] ∧ Tu H a ns ∧ IsOrd ns ∧ ∀ H', Same H H' → Q (.ref a) H'
theorem scWOrder : FnScope ["value"] ["value"] (defScope s_want_order) := ⟨rfl, rfl, rfl, by decide +kernel, rfl, by decide +kernel, by decide +kernel⟩
theorem pr_want_order (T : Txt K mg) : Pr P w K mg base 4 "want_order" ["value"] spWOrder := by
  refine pr_of T.want_order scWOrder (fun vs H Q E h => ?_) (fun _ _ _ _ _ _ us hl => match us, hl with | [_], _ => rfl) (fun f cdv A outer s H vs Q E hr h => ?_)
  · obtain ⟨_, _, rfl, _⟩ := h
    rfl
  · obtain ⟨a, ns, rfl, ha, O, q⟩ := h
    refine ⟨_, pss_cons (ps_if (pt_not (pt_val (pe_callP (pr_is_order T) hr (pa_cons (pv 0) pa_nil)))) pss_never pss_nil) (pss_one (ps_ret (pe_tupleOf rfl T.tuple (pv 0)))), ?_⟩
    refine ⟨_, rfl, a, ns, rfl, ha, O, fun H1 s1 => ⟨true, rfl, iteF ?_⟩⟩
    exact ⟨_, rfl, .inr ⟨a, _, rfl, Tu.sq (show Tu H1 a ns from s1 _ _ ha), q _ s1⟩⟩
def spWAlike : Sp := fun vs H Q _ => ∃ (a b : Addr) (ns ms : List Int), vs = [.ref a, .ref b] ∧ Tu H a ns ∧ Tu H b ms ∧ ns.length = ms.length ∧ Q .non H
theorem scWAlike : FnScope ["order", "other"] ["order", "other"] (defScope s_want_alike) := ⟨rfl, rfl, rfl, by decide +kernel, rfl, by decide +kernel, by decide +kernel⟩
theorem pr_want_alike (T : Txt K mg) : Pr P w K mg base 1 "want_alike" ["order", "other"] spWAlike := by
  refine pr_of T.want_alike scWAlike (fun vs H Q E h => ?_) (fun _ _ _ _ _ _ us hl => match us, hl with | [_, _], _ => rfl) (fun f cdv A outer s H vs Q E hr h => ?_)
  · obtain ⟨_, _, _, _, rfl, _⟩ := h
    rfl
  · obtain ⟨a, b, ns, ms, rfl, ha, hb, e, q⟩ := h
    refine ⟨_, pss_one (ps_if (pt_cmpR op_ne (pe_callB call_len_seq rfl T.len PySem.boot_len (pa_cons (pv 0) pa_nil)) (pe_callB call_len_seq rfl T.len PySem.boot_len (pa_cons (pv 1) pa_nil)) (nomark _)) pss_never pss_nil), ?_⟩
    refine ⟨_, rfl, a, _, rfl, .inr ha.sq, _, rfl, b, _, rfl, .inr hb.sq, rfl, _, rfl, iteNS ?_ q⟩
    rw [List.length_map, List.length_map, e]
/-! ### is_corner, want_corner -/
def spCorner : Sp := fun vs H Q _ => ∃ (a : Addr) (m k n : Int), vs = [.ref a, .int n] ∧ Tu H a [m, k] ∧ 1 ≤ m ∧ m ≤ n ∧ 1 ≤ k ∧ k ≤ n ∧ Q (.bl true) H
theorem scCorner : FnScope ["value", "size"] ["value", "size"] (defScope s_is_corner) := ⟨rfl, rfl, rfl, by decide +kernel, rfl, by decide +kernel, by decide +kernel⟩
theorem at0 {m k : Int} : atI ([m, k].map V.int) 0 = some (.int m) := atI_nat (j := 0) rfl
theorem at1 {m k : Int} : atI ([m, k].map V.int) 1 = some (.int k) := atI_nat (j := 1) rfl
theorem pr_is_corner (T : Txt K mg) : Pr P w K mg base 3 "is_corner" ["value", "size"] spCorner := by
  refine pr_of T.is_corner scCorner (fun vs H Q E h => ?_) (fun _ _ _ _ _ _ us hl => match us, hl with | [_, _], _ => rfl) (fun f cdv A outer s H vs Q E hr h => ?_)
  · obtain ⟨_, _, _, _, rfl, _⟩ := h
    rfl
  · obtain ⟨a, m, k, n, rfl, ha, m1, mn, k1, kn, q⟩ := h
    refine ⟨_, pss_cons (ps_if (PW.pt (pw_or (pt_not (pt_val (pe_callB call_isi rfl T.isinstance boot_isinstance (pa_cons (pv 0) (pa_cons (pe_bltn (v := .ty "tuple") rfl T.tuple PyProof.Rows.boot_tuple rfl) pa_nil)))))
        (pw_or (pt_cmpR op_ne (pe_callB call_len_seq rfl T.len PySem.boot_len (pa_cons (pv 0) pa_nil)) pe_int (nomark _))
        (pw_or (pt_not (pt_val (pe_callP (pr_is_count T) hr (pa_cons (pe_ix ix_tup (pv 0) pe_int (fun _ _ => rfl)) pa_nil))))
        (pw_or1 (pt_not (pt_val (pe_callP (pr_is_count T) hr (pa_cons (pe_ix ix_tup (pv 0) pe_int (fun _ _ => rfl)) pa_nil)))))))))
        (pss_one (ps_ret pe_bl)) pss_nil)
      (pss_one (ps_ret (pe_and (pe_chain op_le op_le pe_int (pe_ix ix_tup (pv 0) pe_int (fun _ _ => rfl)) (pv 1)) (pe_one (pe_chain op_le op_le pe_int (pe_ix ix_tup (pv 0) pe_int (fun _ _ => rfl)) (pv 1)))))), ?_⟩
    refine ⟨_, rfl, _, _, .type "tuple", _, true, rfl, .ty _, .base (.tup ha), kit_ty (by decide +kernel), true, rfl, iteF ?_⟩
    refine ⟨_, rfl, a, _, rfl, .inr ha.sq, rfl, false, rfl, iteF ?_⟩
    refine ⟨_, rfl, a, _, 0, .int m, rfl, rfl, ha.sq, at0, m, rfl, by omega, true, rfl, iteF ?_⟩
    refine ⟨_, rfl, a, _, 1, .int k, rfl, rfl, ha.sq, at1, k, rfl, by omega, true, rfl, iteF ?_⟩
    refine ⟨_, rfl, a, _, 0, .int m, rfl, rfl, ha.sq, at0, 1, m, rfl, rfl, true, bl_t m1, iteT ?_⟩
    refine ⟨_, rfl, m, n, rfl, rfl, true, bl_t mn, iteT ?_⟩
    refine ⟨_, rfl, a, _, 1, .int k, rfl, rfl, ha.sq, at1, 1, k, rfl, rfl, true, bl_t k1, iteT ?_⟩
    exact ⟨_, rfl, k, n, rfl, rfl, Qt (p := k ≤ n) kn q⟩
def spWCorner : Sp := fun vs H Q _ => ∃ (a : Addr) (m k n : Int), vs = [.int n, .ref a] ∧ Tu H a [m, k] ∧ 1 ≤ m ∧ m ≤ n ∧ 1 ≤ k ∧ k ≤ n ∧ Q .non H
theorem scWCorner : FnScope ["size", "value"] ["size", "value"] (defScope s_want_corner) := ⟨rfl, rfl, rfl, by decide +kernel, rfl, by decide +kernel, by decide +kernel⟩
theorem pr_want_corner (T : Txt K mg) : Pr P w K mg base 4 "want_corner" ["size", "value"] spWCorner := by
  refine pr_of T.want_corner scWCorner (fun vs H Q E h => ?_) (fun _ _ _ _ _ _ us hl => match us, hl with | [_, _], _ => rfl) (fun f cdv A outer s H vs Q E hr h => ?_)
  · obtain ⟨_, _, _, _, rfl, _⟩ := h
    rfl
  · obtain ⟨a, m, k, n, rfl, ha, m1, mn, k1, kn, q⟩ := h
    refine ⟨_, pss_one (ps_if (pt_not (pt_val (pe_callP (pr_is_corner T) hr (pa_cons (pv 1) (pa_cons (pv 0) pa_nil))))) pss_never pss_nil), ?_⟩
    exact ⟨_, rfl, _, rfl, a, m, k, n, rfl, ha, m1, mn, k1, kn, true, rfl, iteF q⟩
/-! ### least_count, most_count -/
def spLC : Sp := fun vs H Q _ => ∃ (a : Addr) (m k : Int), vs = [.ref a] ∧ Tu H a [m, k] ∧ Q (.int (max 0 (m - k + 1))) H
theorem scLC : FnScope ["corner"] ["corner"] (defScope s_least_count) := ⟨rfl, rfl, rfl, by decide +kernel, rfl, by decide +kernel, by decide +kernel⟩
theorem max_py {i j : Int} : (if j > i then j else i) = max i j := by
  rw [Int.max_def]
  split <;> split <;> omega
theorem min_py {i j : Int} : (if j < i then j else i) = min i j := by
  rw [Int.min_def]
  split <;> split <;> omega
theorem pr_least_count (T : Txt K mg) : Pr P w K mg base 1 "least_count" ["corner"] spLC := by
  refine pr_of T.least_count scLC (fun vs H Q E h => ?_) (fun _ _ _ _ _ _ us hl => match us, hl with | [_], _ => rfl) (fun f cdv A outer s H vs Q E hr h => ?_)
  · obtain ⟨_, _, _, rfl, _⟩ := h
    rfl
  · obtain ⟨a, m, k, rfl, ha, q⟩ := h
    refine ⟨_, pss_one (ps_ret (pe_callB (call_max2 rfl) rfl T.max boot_max (pa_cons pe_int (pa_cons (pe_op op_add (pe_op op_sub (pe_ix ix_tup (pv 0) pe_int (fun _ _ => rfl)) (pe_ix ix_tup (pv 0) pe_int (fun _ _ => rfl))) pe_int) pa_nil)))), ?_⟩
    refine ⟨_, rfl, a, _, 0, .int m, rfl, rfl, ha.sq, at0, _, rfl, a, _, 1, .int k, rfl, rfl, ha.sq, at1, m, k, rfl, rfl, m - k, 1, rfl, rfl, 0, m - k + 1, rfl, ?_⟩
    rw [max_py]
    exact q
def spMC : Sp := fun vs H Q _ => ∃ (a : Addr) (m k n : Int), vs = [.int n, .ref a] ∧ Tu H a [m, k] ∧ Q (.int (min m (n - k + 1))) H
theorem scMC : FnScope ["size", "corner"] ["size", "corner"] (defScope s_most_count) := ⟨rfl, rfl, rfl, by decide +kernel, rfl, by decide +kernel, by decide +kernel⟩
theorem pr_most_count (T : Txt K mg) : Pr P w K mg base 1 "most_count" ["size", "corner"] spMC := by
  refine pr_of T.most_count scMC (fun vs H Q E h => ?_) (fun _ _ _ _ _ _ us hl => match us, hl with | [_, _], _ => rfl) (fun f cdv A outer s H vs Q E hr h => ?_)
  · obtain ⟨_, _, _, _, rfl, _⟩ := h
    rfl
  · obtain ⟨a, m, k, n, rfl, ha, q⟩ := h
    refine ⟨_, pss_one (ps_ret (pe_callB (call_min2 rfl) rfl T.min boot_min (pa_cons (pe_ix ix_tup (pv 1) pe_int (fun _ _ => rfl)) (pa_cons (pe_op op_add (pe_op op_sub (pv 0) (pe_ix ix_tup (pv 1) pe_int (fun _ _ => rfl))) pe_int) pa_nil)))), ?_⟩
    refine ⟨_, rfl, a, _, 0, .int m, rfl, rfl, ha.sq, at0, _, rfl, _, rfl, a, _, 1, .int k, rfl, rfl, ha.sq, at1, n, k, rfl, rfl, n - k, 1, rfl, rfl, m, n - k + 1, rfl, ?_⟩
    rw [min_py]
    exact q
end
end Lb

set_option maxHeartbeats 2000000
/-! what a corner counts; least orders -/
namespace Lb
open PySem PySem.Spec PyProof.Rows L2
section
variable {P : Program} {w : World} {K : PySem.W.Frag} {mg : Str → Option Value} {base : Heap}
/-! ### t[:m] of a tuple of ints -/
theorem cut_take (xs : List V) {m : Int} (m0 : 0 ≤ m) : cutV xs none (some m) = xs.take m.toNat := by
  obtain ⟨j, rfl⟩ := Int.eq_ofNat_of_zero_le m0
  unfold cutV
  rw [HT.sIx_nat, HT.sIx_none, Nat.sub_zero, List.drop_zero, Int.toNat_natCast, ← List.take_eq_take_min]
theorem take_slice {H : Hp} {a : Addr} {ns : List Int} {m : Int} {Q : VK} (ha : Tu H a ns) (m0 : 0 ≤ m) (q : ∀ p H', Same H H' → Tu H' p (ns.take m.toNat) → Q (.ref p) H') : rSlA K (.ref a) none (some m) H Q := by
  refine ⟨a, _, rfl, ha.sq, fun e => ?_, fun _ p np => ?_⟩
  · refine q a H (Same.refl H) ?_
    obtain ⟨j, rfl⟩ := Int.eq_ofNat_of_zero_le m0
    have e2 := e.2
    rw [HT.sIx_nat, List.length_map] at e2
    rw [Int.toNat_natCast, List.take_of_length_le (by omega)]
    exact ha
  · refine q p _ (same_upd np) ?_
    show upd H p _ p = _
    rw [upd_same, cut_take _ m0, List.map_take]
theorem filt_more {l : List Int} {i : Nat} {z : Int} {q : Int → Bool} (h : l[i]? = some z) : (l.take (i + 1)).filter q = (l.take i).filter q ++ (if q z = true then [z] else []) := by
  rw [take_more h, List.filter_append]
  congr 1
  cases e : q z <;> simp [e]
/-! ### count_of -/
def spCO : Sp := fun vs H Q _ => ∃ (a c : Addr) (ns : List Int) (m k : Int), vs = [.ref a, .ref c] ∧ Tu H a ns ∧ Tu H c [m, k] ∧ 0 ≤ m ∧ ns.length ≤ 9 ∧ ∀ H', Same H H' → Q (.int (LbM.cnt ns m.toNat k)) H'
theorem scCO : FnScope ["order", "corner", "places", "least", "thing"] ["order", "corner"] (defScope s_count_of) := ⟨rfl, rfl, rfl, by decide +kernel, rfl, by decide +kernel, by decide +kernel⟩
theorem pr_count_of (T : Txt K mg) : Pr P w K mg base 1 "count_of" ["order", "corner"] spCO := by
  refine pr_of T.count_of scCO (fun vs H Q E h => ?_) (fun _ _ _ _ _ _ us hl => match us, hl with | [_, _], _ => rfl) (fun f cdv A outer s H vs Q E hr h => ?_)
  · obtain ⟨_, _, _, _, _, rfl, _⟩ := h
    rfl
  · obtain ⟨a, c, ns, m, k, rfl, ha, hc, m0, n9, q⟩ := h
    refine ⟨_, pss_cons (ps_asg (pv 1) (pg_tup rfl (pgs_cons (pg_name (i := 2) scCO.nd rfl (Or.inl rfl)) (pgs_cons (pg_name (i := 3) scCO.nd rfl (Or.inr rfl)) pgs_nil))))
      (pss_one (ps_ret (pe_callB call_len_seq rfl T.len PySem.boot_len (pa_cons (pe_lc (own := [("thing", 4)]) (g := gName 4) rfl scCO.nd (pi_tup (pe_slice sl_tupA (pv 0) po_none (po_some (pv 2)))) (blkOk_by (N := ["order", "corner", "places", "least", "thing"]) (sc := defScope s_count_of) (by decide +kernel))
          (fun _ _ _ _ _ => pg_name (i := 4) scCO.nd rfl (Or.inl rfl)) (fun _ _ _ _ _ => pts_one (pt_cmpR op_ge (pv 4) (pv 3) (nomark _))) (fun _ _ _ _ _ => pv 4)) pa_nil)))), ?_⟩
    refine ⟨_, rfl, c, _, rfl, hc.sq, rfl, _, _, rfl, _, _, rfl, rfl, ?_⟩
    refine ⟨_, rfl, _, rfl, m, rfl, take_slice ha m0 fun p H1 s1 hp => ?_⟩
    refine ⟨p, rfl, ⟨_, hp.sq⟩, fun D nD => ?_⟩
    refine lc_tup (K := K) (a := p) (xs := (ns.take m.toNat).map V.int) (fun i H' => Same H1 H' ∧ H' D = some (.lst ((((ns.take m.toNat).take i).filter fun x => decide (k ≤ x)).map V.int))) ⟨same_upd nD, upd_same⟩ (fun i H' _ h => (show Tu H' p _ from h.1 _ _ hp).sq) ?_ ?_
    · rintro i x H' hi ⟨s2, d2⟩
      obtain ⟨z, hz, rfl⟩ := map_at hi
      refine ⟨rfl, _, rfl, _, rfl, z, k, rfl, rfl, _, rfl, ite2 (fun e => ?_) (fun e => ?_)⟩
      · have e := of_decide_eq_true e
        refine ⟨_, rfl, _, d2, ?_, Same.over s2 nD, ?_⟩
        · rw [List.length_map]
          refine small1000 (Nat.le_trans (List.length_filter_le _ _) ?_)
          rw [List.length_take, List.length_take]
          omega
        · rw [upd_same, filt_more hz, if_pos (decide_eq_true e), List.map_append]
          rfl
      · have e : ¬ k ≤ z := fun z' => e (decide_eq_true z')
        refine ⟨s2, ?_⟩
        rw [d2, filt_more hz, if_neg (by simpa using e), List.append_nil]
    · rintro H' ⟨s2, d2⟩
      refine ⟨D, _, rfl, .inl (sq_lst d2), ?_⟩
      have e1 : ((((ns.take m.toNat).take ((ns.take m.toNat).map V.int).length).filter fun x => decide (k ≤ x)).map V.int).length = LbM.cnt ns m.toNat k := by
        rw [List.length_map, List.length_map, List.take_length]
        unfold LbM.cnt LbM.ge
        rw [List.countP_eq_length_filter]
      rw [e1]
      exact q _ (s1.trans s2)
/-! ### counted -/
def spCd : Sp := fun vs H Q _ => ∃ (a c : Addr) (ns : List Int) (m k : Int), vs = [.ref a, .ref c] ∧ Tu H a ns ∧ Tu H c [m, k] ∧ IsOrd ns ∧ 1 ≤ m ∧ m ≤ ns.length ∧ 1 ≤ k ∧ k ≤ ns.length ∧ ∀ H', Same H H' → Q (.int (LbM.cnt ns m.toNat k)) H'
theorem scCd : FnScope ["order", "corner", "here"] ["order", "corner"] (defScope s_counted) := ⟨rfl, rfl, rfl, by decide +kernel, rfl, by decide +kernel, by decide +kernel⟩
theorem pr_counted (T : Txt K mg) : Pr P w K mg base 5 "counted" ["order", "corner"] spCd := by
  refine pr_of T.counted scCd (fun vs H Q E h => ?_) (fun _ _ _ _ _ _ us hl => match us, hl with | [_, _], _ => rfl) (fun f cdv A outer s H vs Q E hr h => ?_)
  · obtain ⟨_, _, _, _, _, rfl, _⟩ := h
    rfl
  · obtain ⟨a, c, ns, m, k, rfl, ha, hc, O, m1, mn, k1, kn, q⟩ := h
    refine ⟨_, pss_cons (ps_set (i := 2) scCd.nd rfl (Or.inl rfl) (pe_callP (pr_want_order T) hr (pa_cons (pv 0) pa_nil)))
      (pss_cons (ps_expr (pe_callP (pr_want_corner T) hr (pa_cons (pe_callB call_len_seq rfl T.len PySem.boot_len (pa_cons (pv 2) pa_nil)) (pa_cons (pv 1) pa_nil))))
      (pss_one (ps_ret (pe_callP (pr_count_of T) (hr.mono (by decide)) (pa_cons (pv 2) (pa_cons (pv 1) pa_nil)))))), ?_⟩
    refine ⟨_, rfl, a, ns, rfl, ha, O, fun H1 s1 => ?_⟩
    have a1 : Tu H1 a ns := s1 _ _ ha
    have c1 : Tu H1 c [m, k] := s1 _ _ hc
    have ln : ((ns.map V.int).length : Int) = ns.length := by rw [List.length_map]
    refine ⟨_, rfl, a, _, rfl, .inr a1.sq, _, rfl, c, m, k, _, rfl, c1, m1, by rw [ln]; exact mn, k1, by rw [ln]; exact kn, ?_⟩
    exact ⟨_, rfl, _, rfl, a, c, ns, m, k, rfl, a1, c1, by omega, O.n9, fun H2 s2 => q _ (s1.trans s2)⟩
/-! ### _law_count -/
theorem scLCt : FnScope ["_law_order_here", "_law_corner", "_law_thing"] ["_law_order_here", "_law_corner"] (defScope s_law_count) := ⟨rfl, rfl, rfl, by decide +kernel, rfl, by decide +kernel, by decide +kernel⟩
theorem pr_law_count (T : Txt K mg) : Pr P w K mg base 1 "_law_count" ["_law_order_here", "_law_corner"] spCO := by
  refine pr_of T.law_count scLCt (fun vs H Q E h => ?_) (fun _ _ _ _ _ _ us hl => match us, hl with | [_, _], _ => rfl) (fun f cdv A outer s H vs Q E hr h => ?_)
  · obtain ⟨_, _, _, _, _, rfl, _⟩ := h
    rfl
  · obtain ⟨a, c, ns, m, k, rfl, ha, hc, m0, n9, q⟩ := h
    refine ⟨_, pss_one (ps_ret (pe_callB (cr_sum rfl) rfl T.sum boot_sum (pa_cons (pe_lc (own := [("_law_thing", 2)]) (g := gName 2) rfl scLCt.nd (pi_tup (pe_slice sl_tupA (pv 0) po_none (po_some (pe_ix ix_tup (pv 1) pe_int (fun _ _ => rfl))))) (blkOk_by (N := ["_law_order_here", "_law_corner", "_law_thing"]) (sc := defScope s_law_count) (by decide +kernel))
          (fun _ _ _ _ _ => pg_name (i := 2) scLCt.nd rfl (Or.inl rfl)) (fun _ _ _ _ _ => pts_one (pt_cmpR op_ge (pv 2) (pe_ix (r := rIxT K) ix_tup (pv 1) pe_int (fun _ _ => rfl)) (nomark _))) (fun _ _ _ _ _ => pe_int)) pa_nil))), ?_⟩
    refine ⟨_, rfl, _, rfl, c, _, 0, .int m, rfl, rfl, hc.sq, at0, m, rfl, take_slice ha m0 fun p H1 s1 hp => ?_⟩
    have hc1 : Tu H1 c [m, k] := s1 _ _ hc
    refine ⟨p, rfl, ⟨_, hp.sq⟩, fun D nD => ?_⟩
    refine lc_tup (K := K) (a := p) (xs := (ns.take m.toNat).map V.int) (fun i H' => Same H1 H' ∧ H' D = some (.lst ((List.replicate (LbM.ge k ((ns.take m.toNat).take i)) (1 : Int)).map V.int))) ⟨same_upd nD, upd_same⟩ (fun i H' _ h => (show Tu H' p _ from h.1 _ _ hp).sq) ?_ ?_
    · rintro i x H' hi ⟨s2, d2⟩
      obtain ⟨z, hz, rfl⟩ := map_at hi
      refine ⟨rfl, _, rfl, _, rfl, c, _, 1, .int k, rfl, rfl, (show Tu H' c [m, k] from s2 _ _ hc1).sq, at1, z, k, rfl, rfl, _, rfl, ite2 (fun e => ?_) (fun e => ?_)⟩
      · have e := of_decide_eq_true e
        refine ⟨_, d2, ?_, Same.over s2 nD, ?_⟩
        · rw [List.length_map, List.length_replicate]
          refine small1000 (Nat.le_trans (LbM.ge_le _ _) ?_)
          rw [List.length_take, List.length_take]
          omega
        · rw [upd_same, take_more hz, LbM.ge_app, LbM.ge_cons, LbM.ge_nil, if_pos e, List.replicate_succ', List.map_append]
          rfl
      · have e : ¬ k ≤ z := fun z' => e (decide_eq_true z')
        refine ⟨s2, ?_⟩
        rw [d2, take_more hz, LbM.ge_app, LbM.ge_cons, LbM.ge_nil, if_neg e]
        rfl
    · rintro H' ⟨s2, d2⟩
      refine ⟨D, _, rfl, sq_lst d2, ?_⟩
      have e1 : (List.replicate (LbM.ge k ((ns.take m.toNat).take ((ns.take m.toNat).map V.int).length)) (1 : Int)).sum = LbM.cnt ns m.toNat k := by
        rw [List.length_map, List.take_length]
        unfold LbM.cnt
        generalize LbM.ge k (ns.take m.toNat) = g
        induction g with
        | zero => rfl
        | succ g ih => rw [List.replicate_succ, List.sum_cons, ih]; omega
      rw [e1]
      exact q _ (s1.trans s2)
end
end Lb

set_option maxHeartbeats 2000000
/-! least orders -/
namespace Lb
open PySem PySem.Spec PyProof.Rows L2
section
variable {P : Program} {w : World} {K : PySem.W.Frag} {mg : Str → Option Value} {base : Heap}
theorem inV_int (z : Int) : ∀ l : List Int, inV (.int z) (l.map V.int) = decide (z ∈ l)
  | [] => rfl
  | y :: l => by
    have ih := inV_int z l
    unfold inV at ih ⊢
    rw [List.map_cons, List.any_cons, ih]
    show ((y == z) || decide (z ∈ l)) = decide (z ∈ y :: l)
    by_cases e : y = z
    · subst e
      simp
    · have e2 : ¬ z = y := fun q => e q.symm
      have e3 : (y == z) = false := by simpa using e
      rw [e3]
      simp [e2]
theorem flat_ints (l : List Int) : (l.map V.int).all flatV = true := by
  rw [List.all_map, List.all_eq_true]
  intro _ _
  rfl
theorem rg_more (i : Nat) (q : Int → Bool) : (LbM.rg 1 (i + 1)).filter q = (LbM.rg 1 i).filter q ++ (if q (1 + (i : Int)) = true then [1 + (i : Int)] else []) := by
  rw [LbM.rg_succ, List.filter_append]
  congr 1
  cases e : q (1 + (i : Int)) <;> simp [e]
theorem two_rg (m k c : Int) : rgV 1 (m - c + 1) ++ rgV k (k + c) = (LbM.ahead m k c).map V.int := by
  unfold LbM.ahead
  rw [rgV_rg, rgV_rg, List.map_append]
  congr 3 <;> congr 1 <;> omega
def spLO : Sp := fun vs H Q _ => ∃ (c : Addr) (n m k many : Int), vs = [.int n, .ref c, .int many] ∧ Tu H c [m, k] ∧ LbM.Cn n m k many ∧ ∀ H' p, Same H H' → Tu H' p (LbM.least n m k many) → Q (.ref p) H'

theorem scLO : FnScope ["size", "corner", "many", "places", "least", "ahead", "thing"] ["size", "corner", "many"] (defScope s_least_of) := ⟨rfl, rfl, rfl, by decide +kernel, rfl, by decide +kernel, by decide +kernel⟩
theorem pr_least_of (T : Txt K mg) : Pr P w K mg base 2 "least_of" ["size", "corner", "many"] spLO := by
  refine pr_of T.least_of scLO (fun vs H Q E h => ?_) (fun _ _ _ _ _ _ us hl => match us, hl with | [_, _, _], _ => rfl) (fun f cdv A outer s H vs Q E hr h => ?_)
  · obtain ⟨_, _, _, _, _, rfl, _⟩ := h
    rfl
  · obtain ⟨c, n, m, k, many, rfl, hc, C, q⟩ := h
    obtain ⟨n1, n9, m1, mn, k1, kn, c0, cm, ck⟩ := id C
    refine ⟨_, pss_cons (ps_asg (pv 1) (pg_tup rfl (pgs_cons (pg_name (i := 3) scLO.nd rfl (Or.inl rfl)) (pgs_cons (pg_name (i := 4) scLO.nd rfl (Or.inl rfl)) pgs_nil))))
      (pss_cons (ps_if (pt_cmpR op_le (pv 2) (pe_callP (pr_least_count T) hr (pa_cons (pv 1) pa_nil)) (nomark _))
        (pss_one (ps_ret (pe_tupRg rfl rfl T.tuple (prg_2 rfl T.range pe_int (pe_op op_add (pv 0) pe_int))))) pss_nil)
      (pss_cons (ps_set (i := 5) scLO.nd rfl (Or.inr rfl) (pe_op op_cat (pe_listRg rfl rfl T.list (prg_2 rfl T.range pe_int (pe_op op_add (pe_op op_sub (pv 3) (pv 2)) pe_int))) (pe_listRg rfl rfl T.list (prg_2 rfl T.range (pv 4) (pe_op op_add (pv 4) (pv 2))))))
      (pss_one (ps_ret (pe_tupleOf rfl T.tuple (pe_op op_cat (pv 5) (pe_lc (own := [("thing", 6)]) (g := gName 6) rfl scLO.nd (pi_range2 rfl T.range (pa_cons pe_int (pa_cons (pe_op op_add (pv 0) pe_int) pa_nil))) (blkOk_by (N := ["size", "corner", "many", "places", "least", "ahead", "thing"]) (sc := defScope s_least_of) (by decide +kernel))
          (fun _ _ _ _ _ => pg_name (i := 6) scLO.nd rfl (Or.inl rfl)) (fun _ _ _ _ _ => pts_one (pt_cmpR (r := rIn K true) op_notIn_seq (pv 6) (pv 5) rfl)) (fun _ _ _ _ _ => pv 6)))))))), ?_⟩
    refine ⟨_, rfl, c, _, rfl, hc.sq, rfl, _, _, rfl, _, _, rfl, rfl, ?_⟩
    refine ⟨_, rfl, _, rfl, c, m, k, rfl, hc, many, max 0 (m - k + 1), rfl, rfl, _, rfl, ite2 (fun e => ?_) (fun e => ?_)⟩
    · have e := of_decide_eq_true e
      refine ⟨_, rfl, n, 1, rfl, rfl, 1, n + 1, rfl, rfl, RgOk.of_le (by omega) (by omega) (by omega) (by omega), fun p np => q _ p (same_upd np) ?_⟩
      show upd H p _ p = _
      rw [upd_same, rgV_rg]
      unfold LbM.least
      rw [if_pos e, show (n + 1 - 1).toNat = n.toNat by congr 1; omega]
    · have e : ¬ many ≤ max 0 (m - k + 1) := fun z => e (decide_eq_true z)
      -- ahead
      refine ⟨_, rfl, _, rfl, m, many, rfl, rfl, m - many, 1, rfl, rfl, 1, m - many + 1, rfl, rfl, RgOk.of_le (by omega) (by omega) (by omega) (by omega), fun p1 np1 => ?_⟩
      refine ⟨_, rfl, _, rfl, _, rfl, k, many, rfl, rfl, k, k + many, rfl, rfl, RgOk.of_le (by omega) (by omega) (by omega) (by omega), fun p2 np2 => ?_⟩
      have n12 : p1 ≠ p2 := ne_of_none upd_same np2
      refine ⟨p1, p2, _, _, rfl, rfl, (by rw [upd_ne n12, upd_same]), upd_same, (by rw [rgV_length, rgV_length]; exact small9 (by omega)), fun p3 np3 => ?_⟩
      have s3 : Same H (upd (upd (upd H p1 (.lst (rgV 1 (m - many + 1)))) p2 (.lst (rgV k (k + many)))) p3 (.lst (rgV 1 (m - many + 1) ++ rgV k (k + many)))) := Same.new (Same.new (same_upd np1) np2) np3
      rw [two_rg] at s3 ⊢
      have n3 : (upd (upd (upd H p1 (.lst (rgV 1 (m - many + 1)))) p2 (.lst (rgV k (k + many)))) p3 (.lst ((LbM.ahead m k many).map V.int))) p3 = some (.lst ((LbM.ahead m k many).map V.int)) := upd_same
      revert s3 n3
      generalize (upd (upd (upd H p1 (.lst (rgV 1 (m - many + 1)))) p2 (.lst (rgV k (k + many)))) p3 (.lst ((LbM.ahead m k many).map V.int))) = H3
      intro s3 n3
      -- the rest
      refine ⟨_, rfl, _, rfl, n, 1, rfl, rfl, 1, n + 1, rfl, ⟨by omega, by omega, by omega, by omega⟩, fun D nD => ?_⟩
      have nD3 : p3 ≠ D := ne_of_none n3 nD
      refine lc_range (lo := 1) (n := (n + 1 - 1).toNat) (fun i H' => Same H3 H' ∧ H' D = some (.lst (((LbM.rg 1 i).filter fun x => decide (x ∉ LbM.ahead m k many)).map V.int))) ⟨same_upd nD, upd_same⟩ ?_ ?_
      · rintro i H' hi ⟨s4, d4⟩
        refine ⟨rfl, _, rfl, _, rfl, p3, _, rfl, .inl (sq_lst (s4 _ _ n3)), rfl, flat_ints _, _, rfl, ?_⟩
        rw [inV_int]
        show if (!decide ((1 + (i : Int)) ∈ LbM.ahead m k many)) = true then _ else _
        by_cases e5 : (1 + (i : Int)) ∈ LbM.ahead m k many
        · rw [decide_eq_true e5]
          refine iteF ⟨s4, ?_⟩
          rw [d4, rg_more, if_neg (by simpa using e5), List.append_nil]
        · rw [decide_eq_false e5]
          refine iteT ⟨_, rfl, _, d4, ?_, Same.over s4 nD, ?_⟩
          · rw [List.length_map]
            refine small1000 (Nat.le_trans (List.length_filter_le _ _) ?_)
            rw [LbM.rg_len]
            omega
          · rw [upd_same, rg_more, if_pos (by simpa using e5), List.map_append]
            rfl
      · rintro H' ⟨s4, d4⟩
        have lz : ((LbM.ahead m k many).map V.int).length + (((LbM.rg 1 (n + 1 - 1).toNat).filter fun x => decide (x ∉ LbM.ahead m k many)).map V.int).length ≤ sizeLine := by
          rw [List.length_map, List.length_map]
          have h1 := List.length_filter_le (fun x => decide (x ∉ LbM.ahead m k many)) (LbM.rg 1 (n + 1 - 1).toNat)
          rw [LbM.rg_len] at h1
          unfold LbM.ahead at h1 ⊢
          rw [List.length_append, LbM.rg_len, LbM.rg_len]
          exact small9 (by omega)
        refine ⟨p3, D, _, _, rfl, rfl, s4 _ _ n3, d4, lz, fun p5 np5 => ?_⟩
        refine .inl ⟨p5, _, rfl, sq_lst upd_same, fun p6 np6 => q _ p6 (s3.trans (Same.new (Same.new s4 np5) np6)) ?_⟩
        show upd _ p6 _ p6 = _
        rw [upd_same]
        unfold LbM.least
        rw [if_neg e, List.map_append, show (n + 1 - 1).toNat = n.toNat by congr 1; omega]

theorem scLLe : FnScope ["_law_size", "_law_corner", "_law_many", "_law_places", "_law_least_here", "_law_near", "_law_thing"] ["_law_size", "_law_corner", "_law_many"] (defScope s_law_least) := ⟨rfl, rfl, rfl, by decide +kernel, rfl, by decide +kernel, by decide +kernel⟩
theorem pr_law_least (T : Txt K mg) : Pr P w K mg base 2 "_law_least" ["_law_size", "_law_corner", "_law_many"] spLO := by
  refine pr_of T.law_least scLLe (fun vs H Q E h => ?_) (fun _ _ _ _ _ _ us hl => match us, hl with | [_, _, _], _ => rfl) (fun f cdv A outer s H vs Q E hr h => ?_)
  · obtain ⟨_, _, _, _, _, rfl, _⟩ := h
    rfl
  · obtain ⟨c, n, m, k, many, rfl, hc, C, q⟩ := h
    obtain ⟨n1, n9, m1, mn, k1, kn, c0, cm, ck⟩ := id C
    refine ⟨_, pss_cons (ps_asg (pv 1) (pg_tup rfl (pgs_cons (pg_name (i := 3) scLLe.nd rfl (Or.inl rfl)) (pgs_cons (pg_name (i := 4) scLLe.nd rfl (Or.inl rfl)) pgs_nil))))
      (pss_cons (ps_if (pt_cmpR op_le (pv 2) (pe_callB (call_max2 rfl) rfl T.max boot_max (pa_cons pe_int (pa_cons (pe_op op_add (pe_op op_sub (pv 3) (pv 4)) pe_int) pa_nil))) (nomark _))
        (pss_one (ps_ret (pe_tupRg rfl rfl T.tuple (prg_2 rfl T.range pe_int (pe_op op_add (pv 0) pe_int))))) pss_nil)
      (pss_cons (ps_set (i := 5) scLLe.nd rfl (Or.inr rfl) (pe_op op_cat (pe_listRg rfl rfl T.list (prg_2 rfl T.range pe_int (pe_op op_add (pe_op op_sub (pv 3) (pv 2)) pe_int))) (pe_listRg rfl rfl T.list (prg_2 rfl T.range (pv 4) (pe_op op_add (pv 4) (pv 2))))))
      (pss_one (ps_ret (pe_tupleOf rfl T.tuple (pe_op op_cat (pv 5) (pe_lc (own := [("_law_thing", 6)]) (g := gName 6) rfl scLLe.nd (pi_range2 rfl T.range (pa_cons pe_int (pa_cons (pe_op op_add (pv 0) pe_int) pa_nil))) (blkOk_by (N := ["_law_size", "_law_corner", "_law_many", "_law_places", "_law_least_here", "_law_near", "_law_thing"]) (sc := defScope s_law_least) (by decide +kernel))
          (fun _ _ _ _ _ => pg_name (i := 6) scLLe.nd rfl (Or.inl rfl)) (fun _ _ _ _ _ => pts_one (pt_cmpR (r := rIn K true) op_notIn_seq (pv 6) (pv 5) rfl)) (fun _ _ _ _ _ => pv 6)))))))), ?_⟩
    refine ⟨_, rfl, c, _, rfl, hc.sq, rfl, _, _, rfl, _, _, rfl, rfl, ?_⟩
    refine ⟨_, rfl, _, rfl, _, rfl, m, k, rfl, rfl, m - k, 1, rfl, rfl, 0, m - k + 1, rfl, many, _, rfl, rfl, _, rfl, ite2 (fun e => ?_) (fun e => ?_)⟩
    · have e := of_decide_eq_true e
      rw [max_py] at e
      refine ⟨_, rfl, n, 1, rfl, rfl, 1, n + 1, rfl, rfl, RgOk.of_le (by omega) (by omega) (by omega) (by omega), fun p np => q _ p (same_upd np) ?_⟩
      show upd H p _ p = _
      rw [upd_same, rgV_rg]
      unfold LbM.least
      rw [if_pos e, show (n + 1 - 1).toNat = n.toNat by congr 1; omega]
    · have e : ¬ many ≤ max 0 (m - k + 1) := fun z => e (decide_eq_true (by rw [max_py]; exact z))
      -- ahead
      refine ⟨_, rfl, _, rfl, m, many, rfl, rfl, m - many, 1, rfl, rfl, 1, m - many + 1, rfl, rfl, RgOk.of_le (by omega) (by omega) (by omega) (by omega), fun p1 np1 => ?_⟩
      refine ⟨_, rfl, _, rfl, _, rfl, k, many, rfl, rfl, k, k + many, rfl, rfl, RgOk.of_le (by omega) (by omega) (by omega) (by omega), fun p2 np2 => ?_⟩
      have n12 : p1 ≠ p2 := ne_of_none upd_same np2
      refine ⟨p1, p2, _, _, rfl, rfl, (by rw [upd_ne n12, upd_same]), upd_same, (by rw [rgV_length, rgV_length]; exact small9 (by omega)), fun p3 np3 => ?_⟩
      have s3 : Same H (upd (upd (upd H p1 (.lst (rgV 1 (m - many + 1)))) p2 (.lst (rgV k (k + many)))) p3 (.lst (rgV 1 (m - many + 1) ++ rgV k (k + many)))) := Same.new (Same.new (same_upd np1) np2) np3
      rw [two_rg] at s3 ⊢
      have n3 : (upd (upd (upd H p1 (.lst (rgV 1 (m - many + 1)))) p2 (.lst (rgV k (k + many)))) p3 (.lst ((LbM.ahead m k many).map V.int))) p3 = some (.lst ((LbM.ahead m k many).map V.int)) := upd_same
      revert s3 n3
      generalize (upd (upd (upd H p1 (.lst (rgV 1 (m - many + 1)))) p2 (.lst (rgV k (k + many)))) p3 (.lst ((LbM.ahead m k many).map V.int))) = H3
      intro s3 n3
      -- the rest
      refine ⟨_, rfl, _, rfl, n, 1, rfl, rfl, 1, n + 1, rfl, ⟨by omega, by omega, by omega, by omega⟩, fun D nD => ?_⟩
      have nD3 : p3 ≠ D := ne_of_none n3 nD
      refine lc_range (lo := 1) (n := (n + 1 - 1).toNat) (fun i H' => Same H3 H' ∧ H' D = some (.lst (((LbM.rg 1 i).filter fun x => decide (x ∉ LbM.ahead m k many)).map V.int))) ⟨same_upd nD, upd_same⟩ ?_ ?_
      · rintro i H' hi ⟨s4, d4⟩
        refine ⟨rfl, _, rfl, _, rfl, p3, _, rfl, .inl (sq_lst (s4 _ _ n3)), rfl, flat_ints _, _, rfl, ?_⟩
        rw [inV_int]
        show if (!decide ((1 + (i : Int)) ∈ LbM.ahead m k many)) = true then _ else _
        by_cases e5 : (1 + (i : Int)) ∈ LbM.ahead m k many
        · rw [decide_eq_true e5]
          refine iteF ⟨s4, ?_⟩
          rw [d4, rg_more, if_neg (by simpa using e5), List.append_nil]
        · rw [decide_eq_false e5]
          refine iteT ⟨_, rfl, _, d4, ?_, Same.over s4 nD, ?_⟩
          · rw [List.length_map]
            refine small1000 (Nat.le_trans (List.length_filter_le _ _) ?_)
            rw [LbM.rg_len]
            omega
          · rw [upd_same, rg_more, if_pos (by simpa using e5), List.map_append]
            rfl
      · rintro H' ⟨s4, d4⟩
        have lz : ((LbM.ahead m k many).map V.int).length + (((LbM.rg 1 (n + 1 - 1).toNat).filter fun x => decide (x ∉ LbM.ahead m k many)).map V.int).length ≤ sizeLine := by
          rw [List.length_map, List.length_map]
          have h1 := List.length_filter_le (fun x => decide (x ∉ LbM.ahead m k many)) (LbM.rg 1 (n + 1 - 1).toNat)
          rw [LbM.rg_len] at h1
          unfold LbM.ahead at h1 ⊢
          rw [List.length_append, LbM.rg_len, LbM.rg_len]
          exact small9 (by omega)
        refine ⟨p3, D, _, _, rfl, rfl, s4 _ _ n3, d4, lz, fun p5 np5 => ?_⟩
        refine .inl ⟨p5, _, rfl, sq_lst upd_same, fun p6 np6 => q _ p6 (s3.trans (Same.new (Same.new s4 np5) np6)) ?_⟩
        show upd _ p6 _ p6 = _
        rw [upd_same]
        unfold LbM.least
        rw [if_neg e, List.map_append, show (n + 1 - 1).toNat = n.toNat by congr 1; omega]

/-! ### least_with -/
theorem scLW : FnScope ["size", "corner", "many"] ["size", "corner", "many"] (defScope s_least_with) := ⟨rfl, rfl, rfl, by decide +kernel, rfl, by decide +kernel, by decide +kernel⟩
theorem prD_least_with (T : Txt K mg) : ∃ f fd, FnOk P w K mg base CX0 5 f fd ["size", "corner", "many"] spLO ∧ mg "least_with" = some (.ref f) ∧ FnP K "least_with" s_least_with f fd := by
  refine prD_of T.least_with scLW (fun vs H Q E h => ?_) (fun f cdv A outer s H vs Q E hr h => ?_)
  · obtain ⟨_, _, _, _, _, rfl, _⟩ := h
    rfl
  · obtain ⟨c, n, m, k, many, rfl, hc, C, q⟩ := h
    obtain ⟨n1, n9, m1, mn, k1, kn, c0, cm, ck⟩ := id C
    obtain ⟨t9, mg9⟩ := T.most2
    refine ⟨_, pss_cons (ps_expr (pe_callP (pr_want_many T) (hr.mono (by decide)) (pa_cons (pv 0) (pa_cons pe_int (pa_cons (pe_glob (v := .int 9) rfl mg9 ⟨_, rfl⟩) pa_nil)))))
      (pss_cons (ps_expr (pe_callP (pr_want_corner T) hr (pa_cons (pv 0) (pa_cons (pv 1) pa_nil))))
      (pss_cons (ps_if (PW.pt (pw_or (pt_not (pt_val (pe_callP (pr_is_count T) (hr.mono (by decide)) (pa_cons (pv 2) pa_nil)))) (pw_or1 (pt_cmpR op_gt (pv 2) (pe_callP (pr_most_count T) (hr.mono (by decide)) (pa_cons (pv 0) (pa_cons (pv 1) pa_nil))) (nomark _))))) pss_never pss_nil)
      (pss_one (ps_ret (pe_callP (pr_least_of T) (hr.mono (by decide)) (pa_cons (pv 0) (pa_cons (pv 1) (pa_cons (pv 2) pa_nil)))))))), ?_⟩
    refine ⟨_, rfl, n, 1, 9, rfl, by omega, n1, n9, ?_⟩
    refine ⟨_, rfl, _, rfl, c, m, k, n, rfl, hc, m1, mn, k1, kn, ?_⟩
    refine ⟨_, rfl, many, rfl, c0, true, rfl, iteF ?_⟩
    refine ⟨_, rfl, _, rfl, _, rfl, c, m, k, n, rfl, hc, many, min m (n - k + 1), rfl, rfl, _, rfl, ite2 (fun e => ?_) (fun _ => ?_)⟩
    · have e := of_decide_eq_true e
      omega
    · exact ⟨_, rfl, _, rfl, _, rfl, c, n, m, k, many, rfl, hc, C, q⟩
theorem pr_least_with (T : Txt K mg) : Pr P w K mg base 5 "least_with" ["size", "corner", "many"] spLO :=
  Pr.ofD (fun _ _ _ _ _ _ us hl => match us, hl with | [_, _, _], _ => rfl) (prD_least_with T)
/-- least_with(many = .., corner = .., size = ..) -/
theorem vals_rev : ∀ {vs : List V} {us : List Value}, Vals vs us → Vals vs.reverse us.reverse
  | _, _, .nil => .nil
  | _, _, .cons h r => by
    rw [List.reverse_cons, List.reverse_cons]
    exact (vals_rev r).append (.cons h .nil)
theorem kb_least_with {f : Addr} {fd : FuncData} (F : FnP K "least_with" s_least_with f fd) : KBinds K fd ["size", "corner", "many"] ["many", "corner", "size"] (fun us ws => us ++ ws.reverse) (fun vs zs => vs ++ zs.reverse) :=
  kb_of F (fun kV doc pm an cdv ct us ws hl => by
    rw [List.length_append, List.length_reverse] at hl
    have hl : us.length + ws.length = 3 := hl
    rcases us with _ | ⟨u1, _ | ⟨u2, _ | ⟨u3, _ | ⟨u4, r⟩⟩⟩⟩ <;> rcases ws with _ | ⟨w1, _ | ⟨w2, _ | ⟨w3, _ | ⟨w4, r'⟩⟩⟩⟩ <;>
      first
        | (exfalso; simp only [List.length_cons, List.length_nil] at hl; omega)
        | rfl) fun r z => r.append (vals_rev z)
end
end Lb

set_option maxHeartbeats 2000000
/-! is_lower, want_two, is_below -/
namespace Lb
open PySem PySem.Spec PyProof.Rows L2
section
variable {P : Program} {w : World} {K : PySem.W.Frag} {mg : Str → Option Value} {base : Heap}
theorem map_snoc (ls : List Int) (x : Int) : ls.map V.int ++ [V.int x] = (ls ++ [x]).map V.int := by
  rw [List.map_append]; rfl
theorem zip_more {α β : Type} {f : α × β → Bool} {l : List α} {m : List β} {i : Nat} {x : α} {y : β} (h1 : l[i]? = some x) (h2 : m[i]? = some y) : ((l.zip m).map f).take (i + 1) = ((l.zip m).map f).take i ++ [f (x, y)] := by
  refine take_more ?_
  rw [List.getElem?_map, (List.getElem?_zip_eq_some (z := (x, y))).mpr ⟨h1, h2⟩]
  rfl
theorem cnt_high {ns : List Int} {j : Nat} (h : ns.length ≤ j) (t : Int) : LbM.cnt ns j t = LbM.cnt ns ns.length t := by
  unfold LbM.cnt
  rw [List.take_of_length_le h, List.take_length]
/-! ### is_lower -/
def spLow : Sp := fun vs H Q _ => ∃ (a b : Addr) (ns ms : List Int), vs = [.ref a, .ref b] ∧ Tu H a ns ∧ Tu H b ms ∧ ns.length = ms.length ∧ ns.length ≤ 9 ∧ ∀ (H' : Hp) (r : Bool), Same H H' → (r = true ↔ LbM.Low ns ms) → Q (.bl r) H'
abbrev nLow : List Str := ["order", "other", "near", "far", "thing", "against", "one", "two"]
theorem scLow : FnScope nLow ["order", "other"] (defScope s_is_lower) := ⟨rfl, rfl, rfl, by decide +kernel, rfl, by decide +kernel, by decide +kernel⟩
theorem pr_is_lower (T : Txt K mg) : Pr P w K mg base 1 "is_lower" ["order", "other"] spLow := by
  refine pr_of T.is_lower scLow (fun vs H Q E h => ?_) (fun _ _ _ _ _ _ us hl => match us, hl with | [_, _], _ => rfl) (fun f cdv A outer s H vs Q E hr h => ?_)
  · obtain ⟨_, _, _, _, rfl, _⟩ := h
    rfl
  · obtain ⟨a, b, ns, mss, rfl, ha, hb, le, n9, q⟩ := h
    refine ⟨_, pss_cons (ps_par (i := 2) (j := 3) rfl scLow.nd rfl rfl (by decide) rfl rfl (pa_cons (pe_lst pa_nil) (pa_cons (pe_lst pa_nil) pa_nil)) (by rfl))
      (pss_cons (ps_for PassesOwn.never rfl (RZ.pi_zipA rfl T.zip (pa_cons (pv 0) (pa_cons (pv 1) pa_nil))) (pg_tup rfl (pgs_cons (pg_name (i := 4) scLow.nd rfl (Or.inl rfl)) (pgs_cons (pg_name (i := 5) scLow.nd rfl (Or.inl rfl)) pgs_nil)))
        (pss_cons (ps_par (i := 2) (j := 3) rfl scLow.nd rfl rfl (by decide) rfl rfl (pa_cons (pe_callB cr_sorted rfl T.sorted boot_sorted (pa_cons (pe_op op_cat (pv 2) (pe_lst (pa_cons (pv 4) pa_nil))) pa_nil)) (pa_cons (pe_callB cr_sorted rfl T.sorted boot_sorted (pa_cons (pe_op op_cat (pv 3) (pe_lst (pa_cons (pv 5) pa_nil))) pa_nil)) pa_nil)) (by rfl))
        (pss_one (ps_if (pt_val (pe_callB (cr_any rfl) rfl T.any boot_any (pa_cons (pe_lc (own := [("one", 6), ("two", 7)]) (g := gTup K 2 (gCons (gName 6) (gCons (gName 7) gNil))) (tt := tYes) rfl scLow.nd (RZ.pi_zipA rfl T.zip (pa_cons (pv 2) (pa_cons (pv 3) pa_nil))) (blkOk_by (N := nLow) (sc := defScope s_is_lower) (by decide +kernel))
            (fun _ _ _ _ _ => pg_tup rfl (pgs_cons (pg_name (i := 6) scLow.nd rfl (Or.inl rfl)) (pgs_cons (pg_name (i := 7) scLow.nd rfl (Or.inl rfl)) pgs_nil))) (fun _ _ _ _ _ => pts_nil) (fun _ _ _ _ _ => pe_cmpR op_gt (pv 6) (pv 7) (nomark _))) pa_nil))) (pss_one (ps_ret pe_bl)) pss_nil))))
      (pss_one (ps_ret pe_bl))), ?_⟩
    refine ⟨Nat.zero_le _, fun p np => ⟨Nat.zero_le _, fun o no => ?_⟩⟩
    have po : p ≠ o := ne_of_none upd_same no
    refine ⟨_, _, rfl, ?_⟩
    refine ⟨_, rfl, _, rfl, a, b, _, _, rfl, .inr ⟨Tu.sq (same_upd no _ _ (same_upd np _ _ ha)), Tu.sq (same_upd no _ _ (same_upd np _ _ hb)), ?_⟩⟩
    refine RZ.for_zipT (xs := ns.map V.int) (ys := mss.map V.int) (by rw [List.length_map, List.length_map, le]) (fun i σ H' => ∃ (p o : Addr) (ls ms : List Int) (v4 v5 : Option V), σ = [some (.ref a), some (.ref b), some (.ref p), some (.ref o), v4, v5, none, none] ∧ Same H H' ∧
      H' p = some (.lst (ls.map V.int)) ∧ H' o = some (.lst (ms.map V.int)) ∧ ls.Perm (ns.take i) ∧ ls.Pairwise (· ≤ ·) ∧ ms.Perm (mss.take i) ∧ ms.Pairwise (· ≤ ·) ∧ ∀ j ≤ i, ∀ t, LbM.cnt ns j t ≤ LbM.cnt mss j t)
      ⟨p, o, [], [], none, none, rfl, Same.new (same_upd np) no, same_upd no _ _ upd_same, upd_same, .nil, .nil, .nil, .nil, fun j hj t => by obtain rfl : j = 0 := by omega
                                                                                                                                              exact Nat.zero_le _⟩
      (fun i σ H' h => ?_) ?_ ?_
    · obtain ⟨_, _, _, _, _, _, _, s1, _⟩ := h
      exact ⟨Tu.sq (s1 _ _ ha), Tu.sq (s1 _ _ hb)⟩
    · rintro i x y TT σ H' hx hy ⟨p, o, ls, ms, v4, v5, rfl, s1, dp, dq, pl, sl, pm, sm, low⟩ nT
      obtain ⟨x, gx, rfl⟩ := map_at hx
      obtain ⟨y, gy, rfl⟩ := map_at hy
      have il : i < ns.length := (List.getElem?_eq_some_iff.mp gx).1
      have l1 : ls.length = i := by rw [pl.length_eq, List.length_take]; omega
      have l2 : ms.length = i := by rw [pm.length_eq, List.length_take]; omega
      refine ⟨TT, _, rfl, sq_tup upd_same, rfl, _, _, rfl, _, _, rfl, rfl, ?_⟩
      -- near, far
      refine ⟨_, rfl, _, rfl, (by show 1 ≤ sizeLine; decide), fun q1 n1 => ⟨p, q1, _, _, rfl, rfl, same_upd n1 _ _ (same_upd nT _ _ dp), upd_same, ?_, fun q2 n2 => ⟨q2, ls ++ [x], rfl, sq_lst ?_, ?_, fun ls' q3 pl' sl' n3 => ?_⟩⟩⟩
      · rw [List.length_map]; exact small9 (by show ls.length + 1 ≤ 100; omega)
      · rw [upd_same, map_snoc]
      · rw [List.length_append]; show ls.length + 1 < 64; omega
      refine ⟨_, rfl, _, rfl, (by show 1 ≤ sizeLine; decide), fun q4 n4 => ⟨o, q4, _, _, rfl, rfl, same_upd n4 _ _ (same_upd n3 _ _ (same_upd n2 _ _ (same_upd n1 _ _ (same_upd nT _ _ dq)))), upd_same, ?_, fun q5 n5 => ⟨q5, ms ++ [y], rfl, sq_lst ?_, ?_, fun ms' q6 pm' sm' n6 => ?_⟩⟩⟩
      · rw [List.length_map]; exact small9 (by show ms.length + 1 ≤ 100; omega)
      · rw [upd_same, map_snoc]
      · rw [List.length_append]; show ms.length + 1 < 64; omega
      refine ⟨_, _, rfl, ?_⟩
      have P1 : ls'.Perm (ns.take (i + 1)) := by
        rw [take_more gx]
        exact pl'.trans (pl.append_right _)
      have P2 : ms'.Perm (mss.take (i + 1)) := by
        rw [take_more gy]
        exact pm'.trans (pm.append_right _)
      have ll : ls'.length = ms'.length := by
        rw [pl'.length_eq, pm'.length_eq, List.length_append, List.length_append, l1, l2]; rfl
      have l3 : ls'.length = i + 1 := by
        rw [pl'.length_eq, List.length_append, l1]; rfl
      -- any(one > two ..)
      refine ⟨_, rfl, _, rfl, q3, q6, _, _, rfl, .inl ⟨sq_lst (same_upd n6 _ _ (same_upd n5 _ _ (same_upd n4 _ _ upd_same))), sq_lst upd_same, fun D nD => ?_⟩⟩
      have n3D : q3 ≠ D := ne_of_none (same_upd n6 _ _ (same_upd n5 _ _ (same_upd n4 _ _ upd_same))) nD
      have n6D : q6 ≠ D := ne_of_none upd_same nD
      have nD0 : H' D = none := Same.free (Same.new (Same.new (Same.new (Same.new (Same.new (Same.new (same_upd nT) n1) n2) n3) n4) n5) n6) nD
      refine lc_it (walk_zip (K := K) (xs := ls'.map V.int) (ys := ms'.map V.int) (n := ls'.length) (by rw [List.length_map, List.length_map, ← ll]; omega)) (fun j H2 => Same H' H2 ∧ H2 q3 = some (.lst (ls'.map V.int)) ∧ H2 q6 = some (.lst (ms'.map V.int)) ∧
        H2 D = some (.lst ((((ls'.zip ms').map fun e => decide (e.1 > e.2)).take j).map V.bl))) ⟨?_, ?_, ?_, upd_same⟩ (fun j H2 _ h => ⟨sq_lst h.2.1, sq_lst h.2.2.1⟩) ?_ ?_
      · exact Same.new (Same.new (Same.new (Same.new (Same.new (Same.new (Same.new (same_upd nT) n1) n2) n3) n4) n5) n6) nD
      · exact same_upd nD _ _ (same_upd n6 _ _ (same_upd n5 _ _ (same_upd n4 _ _ upd_same)))
      · exact same_upd nD _ _ upd_same
      · rintro j v H2 H3 jl ⟨s2, d3, d6, dD⟩ ⟨T2, x1, x2, rfl, nT2, rfl, h1, h2⟩
        obtain ⟨x1, g1, rfl⟩ := map_at h1
        obtain ⟨x2, g2, rfl⟩ := map_at h2
        refine ⟨T2, _, rfl, sq_tup upd_same, rfl, _, _, rfl, _, _, rfl, rfl, rfl, ?_⟩
        refine ⟨_, rfl, _, rfl, x1, x2, rfl, rfl, _, same_upd nT2 _ _ dD, ?_, ?_, ?_, ?_, ?_⟩
        · rw [List.length_map]
          refine small1000 (Nat.le_trans (List.length_take_le _ _) ?_)
          omega
        · exact Same.over (Same.new s2 nT2) nD0
        · rw [upd_ne n3D]
          exact same_upd nT2 _ _ d3
        · rw [upd_ne n6D]
          exact same_upd nT2 _ _ d6
        · rw [upd_same, zip_more g1 g2, List.map_append]
          rfl
      · rintro H2 ⟨s2, d3, d6, dD⟩
        have et : (((ls'.zip ms').map fun e => decide (e.1 > e.2)).take ls'.length) = (ls'.zip ms').map fun e => decide (e.1 > e.2) := by
          refine List.take_of_length_le ?_
          rw [List.length_map, List.length_zip]
          omega
        rw [et] at dD
        refine ⟨D, _, rfl, sq_lst dD, _, rfl, ite2 (fun e => ?_) (fun e => ?_)⟩
        · -- return False
          refine q H2 false (s1.trans s2) ⟨fun z => (Bool.false_ne_true z).elim, fun L => ?_⟩
          have g := (LbM.prefix_ok le P1 P2 sl' sm').mpr fun t => L (i + 1) t
          unfold LbM.noGreater at g
          rw [e] at g
          exact absurd g (by decide)
        · -- the next turn
          refine ⟨q3, q6, ls', ms', _, _, rfl, s1.trans s2, d3, d6, P1, sl', P2, sm', fun j hj t => ?_⟩
          by_cases z : j ≤ i
          · exact low j z t
          · obtain rfl : j = i + 1 := by omega
            refine (LbM.prefix_ok le P1 P2 sl' sm').mp ?_ t
            unfold LbM.noGreater
            rw [Bool.not_eq_true] at e
            rw [e]
            rfl
    · rintro σ H' ⟨p, o, ls, ms, v4, v5, rfl, s1, -, -, -, -, -, -, low⟩
      rw [List.length_map] at low
      refine q H' true s1 ⟨fun _ => fun j t => ?_, fun _ => rfl⟩
      by_cases z : j ≤ ns.length
      · exact low j z t
      · rw [cnt_high (by omega), cnt_high (ns := mss) (by omega), ← le]
        exact low _ (Nat.le_refl _) t
/-! ### want_two, is_below -/
def spWTwo : Sp := fun vs H Q _ => ∃ (a b : Addr) (ns ms : List Int), vs = [.ref a, .ref b] ∧ Tu H a ns ∧ Tu H b ms ∧ IsOrd ns ∧ IsOrd ms ∧ ns.length = ms.length ∧ ∀ (H' : Hp) (p : Addr), Same H H' → H' p = some (.tup [.ref a, .ref b]) → Q (.ref p) H'
theorem scWTwo : FnScope ["order", "other", "one", "two"] ["order", "other"] (defScope s_want_two) := ⟨rfl, rfl, rfl, by decide +kernel, rfl, by decide +kernel, by decide +kernel⟩
theorem pr_want_two (T : Txt K mg) : Pr P w K mg base 5 "want_two" ["order", "other"] spWTwo := by
  refine pr_of T.want_two scWTwo (fun vs H Q E h => ?_) (fun _ _ _ _ _ _ us hl => match us, hl with | [_, _], _ => rfl) (fun f cdv A outer s H vs Q E hr h => ?_)
  · obtain ⟨_, _, _, _, rfl, _⟩ := h
    rfl
  · obtain ⟨a, b, ns, ms, rfl, ha, hb, O1, O2, le, q⟩ := h
    refine ⟨_, pss_cons (ps_par (i := 2) (j := 3) rfl scWTwo.nd rfl rfl (by decide) rfl rfl (pa_cons (pe_callP (pr_want_order T) hr (pa_cons (pv 0) pa_nil)) (pa_cons (pe_callP (pr_want_order T) hr (pa_cons (pv 1) pa_nil)) pa_nil)) (by rfl))
      (pss_cons (ps_expr (pe_callP (pr_want_alike T) (hr.mono (by decide)) (pa_cons (pv 2) (pa_cons (pv 3) pa_nil))))
      (pss_one (ps_ret (pe_tup (pa_cons (pv 2) (pa_cons (pv 3) pa_nil)))))), ?_⟩
    refine ⟨_, rfl, a, ns, rfl, ha, O1, fun H1 s1 => ?_⟩
    refine ⟨_, rfl, b, ms, rfl, s1 _ _ hb, O2, fun H2 s2 => ?_⟩
    refine ⟨_, _, rfl, ?_⟩
    refine ⟨_, rfl, _, rfl, a, b, ns, ms, rfl, s2 _ _ (s1 _ _ ha), s2 _ _ (s1 _ _ hb), le, ?_⟩
    exact ⟨_, rfl, _, rfl, (by show 2 ≤ sizeLine; decide), fun p np => q _ p (s1.trans (Same.new s2 np)) upd_same⟩
def spBel : Sp := fun vs H Q _ => ∃ (a b : Addr) (ns ms : List Int), vs = [.ref a, .ref b] ∧ Tu H a ns ∧ Tu H b ms ∧ IsOrd ns ∧ IsOrd ms ∧ ns.length = ms.length ∧ ∀ (H' : Hp) (r : Bool), Same H H' → (r = true ↔ LbM.Low ns ms) → Q (.bl r) H'
theorem scBel : FnScope ["order", "other", "one", "two"] ["order", "other"] (defScope s_is_below) := ⟨rfl, rfl, rfl, by decide +kernel, rfl, by decide +kernel, by decide +kernel⟩
theorem pr_is_below (T : Txt K mg) : Pr P w K mg base 6 "is_below" ["order", "other"] spBel := by
  refine pr_of T.is_below scBel (fun vs H Q E h => ?_) (fun _ _ _ _ _ _ us hl => match us, hl with | [_, _], _ => rfl) (fun f cdv A outer s H vs Q E hr h => ?_)
  · obtain ⟨_, _, _, _, rfl, _⟩ := h
    rfl
  · obtain ⟨a, b, ns, ms, rfl, ha, hb, O1, O2, le, q⟩ := h
    refine ⟨_, pss_cons (ps_asg (pe_callP (pr_want_two T) hr (pa_cons (pv 0) (pa_cons (pv 1) pa_nil))) (pg_tup rfl (pgs_cons (pg_name (i := 2) scBel.nd rfl (Or.inl rfl)) (pgs_cons (pg_name (i := 3) scBel.nd rfl (Or.inl rfl)) pgs_nil))))
      (pss_one (ps_ret (pe_callP (pr_is_lower T) (hr.mono (by decide)) (pa_cons (pv 2) (pa_cons (pv 3) pa_nil))))), ?_⟩
    refine ⟨_, rfl, _, rfl, a, b, ns, ms, rfl, ha, hb, O1, O2, le, fun H1 p s1 hp => ?_⟩
    refine ⟨p, _, rfl, sq_tup hp, rfl, _, _, rfl, _, _, rfl, rfl, ?_⟩
    exact ⟨_, rfl, _, rfl, a, b, ns, ms, rfl, s1 _ _ ha, s1 _ _ hb, le, O1.n9, fun H2 r s2 hh => q H2 r (s1.trans s2) hh⟩
end
end Lb

set_option maxHeartbeats 2000000
/-! _law_corners, _law_lower -/
namespace Lb
open PySem PySem.Spec PyProof.Rows L2
section
variable {P : Program} {w : World} {K : PySem.W.Frag} {mg : Str → Option Value} {base : Heap}
theorem ne_kind {H : Hp} {p r : Addr} {xs ys : List V} (hp : H p = some (.lst xs)) (hr : H r = some (.tup ys)) : r ≠ p := by
  intro e
  rw [e, hp] at hr
  cases hr
/-- corners of n things at rs, those of D among them -/
structure Cors (H : Hp) (rs : List Addr) (n : Int) (D : Int → Int → Prop) : Prop where
  all : ∀ r ∈ rs, ∃ m k : Int, Tu H r [m, k] ∧ 1 ≤ m ∧ m ≤ n ∧ 1 ≤ k ∧ k ≤ n
  has : ∀ m k : Int, D m k → ∃ r ∈ rs, Tu H r [m, k]
theorem Cors.mono {H H' : Hp} {rs : List Addr} {n : Int} {D : Int → Int → Prop} (c : Cors H rs n D) (s : ∀ r ∈ rs, ∀ xs, H r = some (.tup xs) → H' r = some (.tup xs)) : Cors H' rs n D := by
  refine ⟨fun r hr => ?_, fun m k d => ?_⟩
  · obtain ⟨m, k, t, b⟩ := c.all r hr
    exact ⟨m, k, s r hr _ t, b⟩
  · obtain ⟨r, hr, t⟩ := c.has m k d
    exact ⟨r, hr, s r hr _ t⟩
theorem Cors.app {H : Hp} {rs rs' : List Addr} {n : Int} {D D' D2 : Int → Int → Prop} (c : Cors H rs n D) (c' : Cors H rs' n D') (h : ∀ m k, D2 m k → D m k ∨ D' m k) : Cors H (rs ++ rs') n D2 := by
  refine ⟨fun r hr => ?_, fun m k d => ?_⟩
  · rcases List.mem_append.mp hr with z | z
    · exact c.all r z
    · exact c'.all r z
  · rcases h m k d with z | z
    · obtain ⟨r, hr, t⟩ := c.has m k z
      exact ⟨r, List.mem_append_left _ hr, t⟩
    · obtain ⟨r, hr, t⟩ := c'.has m k z
      exact ⟨r, List.mem_append_right _ hr, t⟩
def AllC (n : Int) : Int → Int → Prop := fun m k => 1 ≤ m ∧ m ≤ n ∧ 1 ≤ k ∧ k ≤ n
def spCors : Sp := fun vs H Q _ => ∃ n : Int, vs = [.int n] ∧ 1 ≤ n ∧ n ≤ 9 ∧ ∀ (H' : Hp) (p : Addr) (rs : List Addr), Same H H' → H' p = some (.lst (rs.map V.ref)) → Cors H' rs n (AllC n) → rs.length ≤ 81 → Q (.ref p) H'
abbrev nCors : List Str := ["_law_size", "_law_found", "_law_places", "_law_least_here"]
theorem scCors : FnScope nCors ["_law_size"] (defScope s_law_corners) := ⟨rfl, rfl, rfl, by decide +kernel, rfl, by decide +kernel, by decide +kernel⟩
theorem pr_law_corners (T : Txt K mg) : Pr P w K mg base 1 "_law_corners" ["_law_size"] spCors := by
  refine pr_of T.law_corners scCors (fun vs H Q E h => ?_) (fun _ _ _ _ _ _ us hl => match us, hl with | [_], _ => rfl) (fun f cdv A outer s H vs Q E hr h => ?_)
  · obtain ⟨_, rfl, _⟩ := h
    rfl
  · obtain ⟨n, rfl, n1, n9, q⟩ := h
    refine ⟨_, pss_cons (ps_set (i := 1) scCors.nd rfl (Or.inl rfl) (pe_lst pa_nil))
      (pss_cons (ps_for PassesOwn.never rfl (pi_range2 rfl T.range (pa_cons pe_int (pa_cons (pe_op op_add (pv 0) pe_int) pa_nil))) (pg_name (i := 2) scCors.nd rfl (Or.inr rfl))
        (pss_one (ps_expr (pe_bm PySem.F.plainAttrs_list PySem.F.slot_list_extend PySem.F.type_list_extend mt_extend (pv 1)
          (pa_cons (pe_lc (own := [("_law_least_here", 3)]) (g := gName 3) (tt := tYes) rfl scCors.nd (pi_range2 rfl T.range (pa_cons pe_int (pa_cons (pe_op op_add (pv 0) pe_int) pa_nil))) (blkOk_by (N := nCors) (sc := defScope s_law_corners) (by decide +kernel))
            (fun _ _ _ _ _ => pg_name (i := 3) scCors.nd rfl (Or.inl rfl)) (fun _ _ _ _ _ => pts_nil) (fun _ _ _ _ _ => pe_tup (pa_cons (pv 2) (pa_cons (pv 3) pa_nil)))) pa_nil)))))
      (pss_one (ps_ret (pv 1)))), ?_⟩
    refine ⟨Nat.zero_le _, fun p np => ?_⟩
    refine ⟨_, rfl, n, 1, rfl, rfl, 1, n + 1, rfl, ⟨by omega, by omega, by omega, by omega⟩, ?_⟩
    refine for_range (lo := 1) (n := (n + 1 - 1).toNat) (fun i σ H' => ∃ (v : Option V) (rs : List Addr), σ = [some (.int n), some (.ref p), v, none] ∧ Same H H' ∧ H' p = some (.lst (rs.map V.ref)) ∧ Cors H' rs n (fun m k => 1 ≤ m ∧ m ≤ i ∧ 1 ≤ k ∧ k ≤ n) ∧ rs.length ≤ i * 9)
      ⟨none, [], rfl, same_upd np, upd_same, ⟨fun r hr => (nomatch hr), fun m k d => by omega⟩, Nat.le_refl _⟩ ?_ ?_
    · rintro i σ H1 hi ⟨v, rs, rfl, s1, d1, c1, l1⟩
      refine ⟨_, rfl, .inl ⟨rfl, _, sq_lst d1⟩, ?_⟩
      refine ⟨_, rfl, n, 1, rfl, rfl, 1, n + 1, rfl, ⟨by omega, by omega, by omega, by omega⟩, fun D nD => ?_⟩
      have npD : p ≠ D := ne_of_none d1 nD
      refine lc_range (lo := 1) (n := (n + 1 - 1).toNat) (fun j H2 => ∃ rs' : List Addr, Same H1 H2 ∧ H2 D = some (.lst (rs'.map V.ref)) ∧ Cors H2 rs' n (fun m k => m = 1 + i ∧ 1 ≤ k ∧ k ≤ j) ∧ rs'.length = j)
        ⟨[], same_upd nD, upd_same, ⟨fun r hr => (nomatch hr), fun m k d => by omega⟩, rfl⟩ ?_ ?_
      · rintro j H2 hj ⟨rs', s2, d2, c2, l2⟩
        refine ⟨rfl, _, rfl, _, rfl, (by show 2 ≤ sizeLine; decide), fun t nt => ⟨_, same_upd nt _ _ d2, ?_, rs' ++ [t], ?_, ?_, ?_, ?_⟩⟩
        · rw [List.length_map]; exact small1000 (by omega)
        · exact Same.over (Same.new s2 nt) nD
        · rw [upd_same, List.map_append]; rfl
        · have nDt : t ≠ D := (ne_of_none d2 nt).symm
          have here : Tu (upd (upd H2 t (.tup [.int (1 + i), .int (1 + j)])) D (.lst (rs'.map V.ref ++ [V.ref t]))) t [1 + (i : Int), 1 + (j : Int)] := by
            show upd _ D _ t = _
            rw [upd_ne nDt, upd_same]
            rfl
          refine (c2.mono fun r hr xs h => ?_).app (D' := fun m k => m = 1 + (i : Int) ∧ k = 1 + (j : Int)) ⟨fun r hr => ?_, fun m k d => ?_⟩ fun m k d => ?_
          · rw [upd_ne (ne_kind d2 h)]
            exact same_upd nt _ _ h
          · obtain rfl : r = t := by simpa using hr
            exact ⟨_, _, here, by omega, by omega, by omega, by omega⟩
          · obtain ⟨rfl, rfl⟩ := d
            exact ⟨t, List.mem_singleton.mpr rfl, here⟩
          · omega
        · rw [List.length_append, l2]; rfl
      · rintro H2 ⟨rs', s2, d2, c2, l2⟩
        have dp2 : H2 p = some (.lst (rs.map V.ref)) := s2 _ _ d1
        refine ⟨p, D, _, _, rfl, rfl, dp2, d2, ?_, _, rs ++ rs', rfl, ?_, ?_, ?_, ?_⟩
        · rw [List.length_map, List.length_map]
          exact Nat.le_of_lt (small1000 (by omega))
        · exact Same.over (s1.trans s2) np
        · rw [upd_same, List.map_append]
        · have hh : ∀ {r xs}, H2 r = some (.tup xs) → upd H2 p (.lst (rs.map V.ref ++ rs'.map V.ref)) r = some (.tup xs) := fun h => by
            rw [upd_ne (ne_kind dp2 h)]
            exact h
          refine (c1.mono fun r hr xs h => hh (s2 _ _ h)).app (c2.mono fun r hr xs h => hh h) fun m k d => ?_
          omega
        · rw [List.length_append, l2]; omega
    · rintro σ H1 ⟨v, rs, rfl, s1, d1, c1, l1⟩
      refine ⟨_, rfl, q H1 p rs s1 d1 ⟨c1.all, fun m k d => c1.has m k ?_⟩ (by omega)⟩
      obtain ⟨d1, d2, d3, d4⟩ := d
      exact ⟨d1, by omega, d3, d4⟩
/-! ### _law_lower -/
theorem low_cors {n : Nat} {p r : List Int} (hp : LbM.Ord n p) (hr : LbM.Ord n r) (h : ∀ m k : Int, AllC n m k → LbM.cnt p m.toNat k ≤ LbM.cnt r m.toNat k) : LbM.Low p r := by
  intro m t
  suffices hm : ∀ m ≤ n, LbM.cnt p m t ≤ LbM.cnt r m t by
    by_cases z : m ≤ n
    · exact hm m z
    · rw [cnt_high (by rw [hp.len]; omega), cnt_high (ns := r) (by rw [hr.len]; omega), hp.len, hr.len]
      exact hm n (Nat.le_refl _)
  intro m hm
  by_cases m0 : m = 0
  · subst m0
    exact Nat.zero_le _
  · by_cases t1 : t ≤ 1
    · have e : LbM.cnt r m t = min m n := by
        unfold LbM.cnt
        rw [LbM.ge_all fun x hx => by have := hr.pos x (List.mem_of_mem_take hx); omega, List.length_take, hr.len]
      have h2 := LbM.ge_le t (p.take m)
      rw [List.length_take, hp.len] at h2
      rw [e]
      exact h2
    · by_cases tn : t ≤ n
      · have := h m t ⟨by omega, by omega, by omega, tn⟩
        rwa [Int.toNat_natCast] at this
      · have e : LbM.cnt p m t = 0 := by
          unfold LbM.cnt LbM.ge
          rw [List.countP_eq_zero]
          intro x hx
          have := hp.le x (List.mem_of_mem_take hx)
          simp only [decide_eq_true_eq]
          omega
        rw [e]
        exact Nat.zero_le _
theorem scLLo : FnScope ["_law_one", "_law_two", "_law_corner"] ["_law_one", "_law_two"] (defScope s_law_lower) := ⟨rfl, rfl, rfl, by decide +kernel, rfl, by decide +kernel, by decide +kernel⟩
theorem pr_law_lower (T : Txt K mg) : Pr P w K mg base 2 "_law_lower" ["_law_one", "_law_two"] spBel := by
  refine pr_of T.law_lower scLLo (fun vs H Q E h => ?_) (fun _ _ _ _ _ _ us hl => match us, hl with | [_, _], _ => rfl) (fun f cdv A outer s H vs Q E hr h => ?_)
  · obtain ⟨_, _, _, _, rfl, _⟩ := h
    rfl
  · obtain ⟨a, b, ns, ms, rfl, ha, hb, O1, O2, le, q⟩ := h
    refine ⟨_, pss_one (ps_ret (pe_callB (cr_all rfl) rfl T.all boot_all (pa_cons (pe_lc (own := [("_law_corner", 2)]) (g := gName 2) (tt := tYes) rfl scLLo.nd (pi_list (pe_callP (pr_law_corners T) hr (pa_cons (pe_callB call_len_seq rfl T.len PySem.boot_len (pa_cons (pv 0) pa_nil)) pa_nil))) (blkOk_by (N := ["_law_one", "_law_two", "_law_corner"]) (sc := defScope s_law_lower) (by decide +kernel))
          (fun _ _ _ _ _ => pg_name (i := 2) scLLo.nd rfl (Or.inl rfl)) (fun _ _ _ _ _ => pts_nil) (fun _ _ _ _ _ => pe_cmpR op_le (pe_callP (pr_law_count T) hr (pa_cons (pv 0) (pa_cons (pv 2) pa_nil))) (pe_callP (pr_law_count T) hr (pa_cons (pv 1) (pa_cons (pv 2) pa_nil))) (nomark _))) pa_nil))), ?_⟩
    have ln : ((ns.map V.int).length : Int) = ns.length := by rw [List.length_map]
    have n1 := O1.n1
    have n9 := O1.n9
    refine ⟨_, rfl, a, _, rfl, .inr ha.sq, _, rfl, by rw [ln]; omega, by rw [ln]; omega, fun H1 p rs s1 dp cs lr => ?_⟩
    rw [ln] at cs
    refine ⟨p, rfl, ⟨_, sq_lst dp⟩, fun D nD => ?_⟩
    have npD : p ≠ D := ne_of_none dp nD
    refine lc_list (K := K) (a := p) (xs := rs.map V.ref) (fun i H2 => ∃ bs : List Bool, Same H1 H2 ∧ H2 D = some (.lst (bs.map V.bl)) ∧ bs.length = i ∧ (bs.all id = true ↔ ∀ r ∈ rs.take i, ∀ m k : Int, Tu H1 r [m, k] → LbM.cnt ns m.toNat k ≤ LbM.cnt ms m.toNat k))
      ⟨[], same_upd nD, upd_same, rfl, ⟨fun _ r hr => (nomatch hr), fun _ => rfl⟩⟩ (fun i H2 _ h => ?_) ?_ ?_
    · obtain ⟨_, s2, _⟩ := h
      exact sq_lst (s2 _ _ dp)
    · rintro i x H2 hi ⟨bs, s2, d2, l2, ib⟩
      obtain ⟨r, hr, rfl⟩ := map_at hi
      have rm : r ∈ rs := List.mem_of_getElem? hr
      obtain ⟨m, k, tr, m1, mn, k1, kn⟩ := cs.all r rm
      refine ⟨rfl, _, rfl, _, rfl, a, r, ns, m, k, rfl, s2 _ _ (s1 _ _ ha), s2 _ _ tr, by omega, O1.n9, fun H3 s3 => ?_⟩
      refine ⟨_, rfl, _, rfl, b, r, ms, m, k, rfl, s3 _ _ (s2 _ _ (s1 _ _ hb)), s3 _ _ (s2 _ _ tr), by omega, O2.n9, fun H4 s4 => ?_⟩
      refine ⟨_, _, rfl, rfl, _, s4 _ _ (s3 _ _ d2), ?_, bs ++ [decide ((LbM.cnt ns m.toNat k : Int) ≤ LbM.cnt ms m.toNat k)], ?_, ?_, ?_, ?_⟩
      · rw [List.length_map, l2]
        have := (List.getElem?_eq_some_iff.mp hr).1
        exact small1000 (by omega)
      · exact Same.over ((Same.trans s2 s3).trans s4) nD
      · rw [upd_same, List.map_append]; rfl
      · rw [List.length_append, l2]; rfl
      · rw [List.all_append, Bool.and_eq_true, ib, take_more hr]
        constructor
        · rintro ⟨h1, h2⟩ r' hr' m' k' t'
          rcases List.mem_append.mp hr' with z | z
          · exact h1 r' z m' k' t'
          · obtain rfl : r' = r := by simpa using z
            have e : m = m' ∧ k = k' := by
              have e := tr.symm.trans t'
              simp at e
              exact e
            obtain ⟨rfl, rfl⟩ := e
            simp only [List.all_cons, List.all_nil, Bool.and_true, id, decide_eq_true_eq] at h2
            omega
        · intro h
          refine ⟨fun r' hr' => h r' (List.mem_append_left _ hr'), ?_⟩
          have := h r (List.mem_append_right _ (List.mem_singleton.mpr rfl)) m k tr
          simp only [List.all_cons, List.all_nil, Bool.and_true, id, decide_eq_true_eq]
          omega
    · rintro H2 ⟨bs, s2, d2, l2, ib⟩
      refine ⟨D, bs, rfl, sq_lst d2, q H2 _ (s1.trans s2) ?_⟩
      rw [ib, List.length_map, List.take_length]
      constructor
      · intro h
        refine low_cors O1.o (le ▸ O2.o) fun m k d => ?_
        obtain ⟨r, hr, t⟩ := cs.has m k d
        exact h r hr m k t
      · intro L r hr m k t
        exact L m.toNat k
end
end Lb

set_option maxHeartbeats 2000000
/-! _law_all -/
namespace Lb
open PySem PySem.Spec PyProof.Rows L2
section
variable {P : Program} {w : World} {K : PySem.W.Frag} {mg : Str → Option Value} {base : Heap}
def fac : Nat → Nat
  | 0 => 1
  | n + 1 => (n + 1) * fac n
theorem fac_le : ∀ {n : Nat}, n ≤ 3 → fac n ≤ 6
  | 0, _ => by decide
  | 1, _ => by decide
  | 2, _ => by decide
  | 3, _ => by decide
  | n + 4, h => by omega
/-- at rs orders of the things ns -/
def Perms (H : Hp) (rs : List Addr) (ns : List Int) : Prop := ∀ r ∈ rs, ∃ ps, Tu H r ps ∧ ps.Perm ns
def spAll (d : Nat) : Sp := fun vs H Q _ => ∃ (a : Addr) (ns : List Int), vs = [.ref a] ∧ H a = some (.lst (ns.map V.int)) ∧ ns.Nodup ∧ ns.length ≤ d ∧ d ≤ 3 ∧
  ∀ (H' : Hp) (p : Addr) (rs : List Addr), Same H H' → H' p = some (.lst (rs.map V.ref)) → Perms H' rs ns → rs.length ≤ fac ns.length → Q (.ref p) H'
abbrev nAll : List Str := ["_law_things", "_law_found", "_law_thing", "_law_rest", "_law_other"]
theorem scAll : FnScope nAll ["_law_things"] (defScope s_law_all) := ⟨rfl, rfl, rfl, by decide +kernel, rfl, by decide +kernel, by decide +kernel⟩
theorem eqv_nil (ns : List Int) : PyData.eqv (.list (ns.map PyData.int)) (.list []) = decide (ns = []) := by
  cases ns with
  | nil => rfl
  | cons n ns =>
    rw [decide_eq_false (by simp)]
    rfl
theorem filt_ne {ns : List Int} (nd : ns.Nodup) {z : Int} (h : z ∈ ns) : (z :: ns.filter fun y => decide (y ≠ z)).Perm ns := by
  have e : (ns.filter fun y => decide (y ≠ z)) = ns.erase z := by
    rw [nd.erase_eq_filter]
    refine List.filter_congr fun y _ => ?_
    by_cases q : y = z <;> simp [q]
  rw [e]
  exact (List.perm_cons_erase h).symm
theorem law_all_step (T : Txt K mg) (d : Nat) {sp0 : Sp} (G0 : Pr P w K mg base (d + 1) "_law_all" ["_law_things"] sp0) (h0 : ∀ d', d = d' + 1 → sp0 = spAll d') : Pr P w K mg base (d + 2) "_law_all" ["_law_things"] (spAll d) := by
  refine pr_of T.law_all scAll (fun vs H Q E h => ?_) (fun _ _ _ _ _ _ us hl => match us, hl with | [_], _ => rfl) (fun f cdv A outer s H vs Q E hr h => ?_)
  · obtain ⟨_, _, rfl, _⟩ := h
    rfl
  · obtain ⟨a, ns, rfl, ha, nd, ld, d3, q⟩ := h
    refine ⟨_, pss_cons (ps_if (pt_cmpR (op_eqD hr.units) (pv 0) (pe_lst pa_nil) (nomark _)) (pss_one (ps_ret (pe_lst (pa_cons (pe_tup pa_nil) pa_nil)))) pss_nil)
      (pss_cons (ps_set (i := 1) scAll.nd rfl (Or.inl rfl) (pe_lst pa_nil))
      (pss_cons (ps_for PassesOwn.never rfl (pi_list (pv 0)) (pg_name (i := 2) scAll.nd rfl (Or.inr rfl))
        (pss_one (ps_expr (pe_bm PySem.F.plainAttrs_list PySem.F.slot_list_extend PySem.F.type_list_extend mt_extend (pv 1)
          (pa_cons (pe_lc (own := [("_law_rest", 3)]) (g := gName 3) (tt := tYes) rfl scAll.nd
            (pi_list (pe_callP G0 hr (pa_cons (pe_lc (own := [("_law_other", 4)]) (g := gName 4) rfl scAll.nd (pi_list (pv 0)) (blkOk_by (N := nAll) (sc := defScope s_law_all) (by decide +kernel))
                (fun _ _ _ _ _ => pg_name (i := 4) scAll.nd rfl (Or.inl rfl)) (fun _ _ _ _ _ => pts_one (pt_cmpR op_ne (pv 4) (pv 2) (nomark _))) (fun _ _ _ _ _ => pv 4)) pa_nil)))
            (blkOk_by (N := nAll) (sc := defScope s_law_all) (by decide +kernel))
            (fun _ _ _ _ _ => pg_name (i := 3) scAll.nd rfl (Or.inl rfl)) (fun _ _ _ _ _ => pts_nil) (fun _ _ _ _ _ => pe_op (r := rCatA K) op_catA (pe_tup (pa_cons (pv 2) pa_nil)) (pv 3))) pa_nil)))))
      (pss_one (ps_ret (pv 1))))), ?_⟩
    refine ⟨_, rfl, Nat.zero_le _, fun e0 ne0 => ?_⟩
    have a0 : (upd H e0 (.lst [])) a = some (.lst (ns.map V.int)) := same_upd ne0 _ _ ha
    refine ⟨_, _, .lst (sq_lst a0) (dp_ints _), .lst (sq_lst upd_same) .nil, shaped_ints _, by decide, _, rfl, ?_⟩
    rw [eqv_nil]
    refine ite2 (fun e => ?_) (fun e => ?_)
    · obtain rfl := of_decide_eq_true e
      refine ⟨Nat.zero_le _, fun t nt => ⟨(by show 1 ≤ sizeLine; decide), fun p np => q _ p [t] (Same.new (Same.new (same_upd ne0) nt) np) upd_same (fun r hr => ?_) (Nat.le_refl _)⟩⟩
      obtain rfl : r = t := by simpa using hr
      exact ⟨[], same_upd np _ _ upd_same, .nil⟩
    · have ne : ns ≠ [] := fun z => e (decide_eq_true z)
      obtain ⟨l', hl'⟩ : ∃ l', ns.length = l' + 1 := ⟨ns.length - 1, by have := List.length_pos_iff.mpr ne; omega⟩
      obtain ⟨d', rfl⟩ : ∃ d', d = d' + 1 := ⟨d - 1, by omega⟩
      obtain rfl := h0 d' rfl
      refine ⟨Nat.zero_le _, fun p np => ?_⟩
      have np0 : H p = none := Same.free (same_upd ne0) np
      have f6 : fac l' ≤ 6 := fac_le (by omega)
      refine ⟨_, rfl, a, rfl, ⟨_, sq_lst (same_upd np _ _ a0)⟩, for_list (K := K) (a := a) (xs := ns.map V.int) (fun i σ H1 => ∃ (v : Option V) (rs : List Addr), σ = [some (.ref a), some (.ref p), v, none, none] ∧ Same H H1 ∧ H1 p = some (.lst (rs.map V.ref)) ∧ Perms H1 rs ns ∧ rs.length ≤ i * fac l')
        ⟨none, [], rfl, Same.new (same_upd ne0) np, upd_same, fun r hr => (nomatch hr), Nat.zero_le _⟩ (fun i σ H1 _ h => ?_) ?_ ?_⟩
      · obtain ⟨_, _, _, s1, _⟩ := h
        exact sq_lst (s1 _ _ ha)
      · rintro i x σ H1 hi ⟨v, rs, rfl, s1, d1, p1, l1⟩
        obtain ⟨z, gz, rfl⟩ := map_at hi
        have zm : z ∈ ns := List.mem_of_getElem? gz
        have il : i < ns.length := (List.getElem?_eq_some_iff.mp gz).1
        have il6 : i * fac l' ≤ 3 * 6 := Nat.mul_le_mul (by omega) f6
        refine ⟨_, rfl, .inl ⟨rfl, _, sq_lst d1⟩, ?_⟩
        -- the others
        refine ⟨_, rfl, a, rfl, ⟨_, sq_lst (s1 _ _ ha)⟩, fun D nD => ?_⟩
        refine lc_list (K := K) (a := a) (xs := ns.map V.int) (fun j H2 => Same H1 H2 ∧ H2 D = some (.lst (((ns.take j).filter fun y => decide (y ≠ z)).map V.int))) ⟨same_upd nD, upd_same⟩ (fun j H2 _ h => sq_lst (h.1 _ _ (s1 _ _ ha))) ?_ ?_
        · rintro j x H2 hj ⟨s2, d2⟩
          obtain ⟨y, gy, rfl⟩ := map_at hj
          refine ⟨rfl, _, rfl, _, rfl, rfl, _, rfl, ?_⟩
          by_cases e : y = z
          · subst e
            show if (!decide (V.int y = V.int y)) = true then _ else _
            rw [decide_eq_true rfl]
            refine iteF ⟨s2, ?_⟩
            rw [d2, filt_more gy, if_neg (by simp), List.append_nil]
          · have e' : ¬ (V.int y = V.int z) := fun h => e (V.int.inj h)
            show if (!decide (V.int y = V.int z)) = true then _ else _
            rw [decide_eq_false e']
            refine iteT ⟨_, rfl, _, d2, ?_, Same.over s2 nD, ?_⟩
            · rw [List.length_map]
              refine small1000 (Nat.le_trans (List.length_filter_le _ _) (Nat.le_trans (List.length_take_le _ _) ?_))
              have := (List.getElem?_eq_some_iff.mp gy).1
              omega
            · rw [upd_same, filt_more gy, if_pos (by simpa using e), List.map_append]
              rfl
        · rintro H2 ⟨s2, d2⟩
          rw [List.length_map, List.take_length] at d2
          have pz := filt_ne nd zm
          have lz : (ns.filter fun y => decide (y ≠ z)).length = l' := by
            have := pz.length_eq
            rw [List.length_cons] at this
            omega
          refine ⟨D, _, rfl, d2, nd.sublist List.filter_sublist, by omega, by omega, fun H3 t rs' s3 dt pt lt => ?_⟩
          rw [lz] at lt
          refine ⟨t, rfl, ⟨_, sq_lst dt⟩, fun D2 nD2 => ?_⟩
          have ntD2 : t ≠ D2 := ne_of_none dt nD2
          refine lc_list (K := K) (a := t) (xs := rs'.map V.ref) (fun j H4 => ∃ rs2 : List Addr, Same H3 H4 ∧ H4 D2 = some (.lst (rs2.map V.ref)) ∧ Perms H4 rs2 ns ∧ rs2.length = j) ⟨[], same_upd nD2, upd_same, fun r hr => (nomatch hr), rfl⟩ (fun j H4 _ h => ?_) ?_ ?_
          · obtain ⟨_, s4, _⟩ := h
            exact sq_lst (s4 _ _ dt)
          · rintro j x H4 hj ⟨rs2, s4, d4, p4, l4⟩
            obtain ⟨r, gr, rfl⟩ := map_at hj
            have jl := (List.getElem?_eq_some_iff.mp gr).1
            obtain ⟨ps, tr, pp⟩ := pt r (List.mem_of_getElem? gr)
            have pl : ps.length = l' := by rw [pp.length_eq, lz]
            refine ⟨rfl, ?_⟩
            refine ⟨_, rfl, (by show 1 ≤ sizeLine; decide), fun u nu => ⟨_, rfl, ?_⟩⟩
            have tr5 : (upd H4 u (.tup [.int z])) r = some (.tup (ps.map V.int)) := same_upd nu _ _ (s4 _ _ tr)
            have fin : ∀ (H5 : Hp) (y : Addr), Same H4 H5 → Tu H5 y (z :: ps) → ∃ acc, H5 D2 = some (.lst acc) ∧ acc.length < sizeLine ∧ ∃ rs2 : List Addr, Same H3 (upd H5 D2 (.lst (acc ++ [V.ref y]))) ∧ (upd H5 D2 (.lst (acc ++ [V.ref y]))) D2 = some (.lst (rs2.map V.ref)) ∧ Perms (upd H5 D2 (.lst (acc ++ [V.ref y]))) rs2 ns ∧ rs2.length = j + 1 := by
              intro H5 y s5 ty
              refine ⟨_, s5 _ _ d4, ?_, rs2 ++ [y], ?_, ?_, ?_, ?_⟩
              · rw [List.length_map]
                exact small1000 (by omega)
              · exact Same.over (Same.trans s4 s5) nD2
              · rw [upd_same, List.map_append]; rfl
              · have hh : ∀ {r xs}, H5 r = some (.tup xs) → upd H5 D2 (.lst (rs2.map V.ref ++ [V.ref y])) r = some (.tup xs) := fun h => by
                  rw [upd_ne (ne_kind (s5 _ _ d4) h)]
                  exact h
                intro r' hr'
                rcases List.mem_append.mp hr' with m | m
                · obtain ⟨ps', t', p'⟩ := p4 r' m
                  exact ⟨ps', hh (s5 _ _ t'), p'⟩
                · obtain rfl : r' = y := by simpa using m
                  exact ⟨_, hh ty, (pp.cons z).trans pz⟩
              · rw [List.length_append, l4]; rfl
            refine ⟨u, r, _, _, rfl, rfl, sq_tup upd_same, sq_tup tr5, ?_, fun h => (nomatch h), fun _ h => ?_, fun _ h y ny => ?_⟩
            · rw [List.length_map, pl]
              exact small9 (by show 1 + l' ≤ 100; omega)
            · have h : ps = [] := List.map_eq_nil_iff.mp h
              subst h
              exact fin _ u (same_upd nu) upd_same
            · exact fin _ y (Same.new (same_upd nu) ny) upd_same
          · rintro H4 ⟨rs2, s4, d4, p4, l4⟩
            rw [List.length_map] at l4
            have dp4 : H4 p = some (.lst (rs.map V.ref)) := s4 _ _ (s3 _ _ (s2 _ _ d1))
            refine ⟨p, D2, _, _, rfl, rfl, dp4, d4, ?_, _, rs ++ rs2, rfl, ?_, ?_, ?_, ?_⟩
            · rw [List.length_map, List.length_map]
              exact small9 (by omega)
            · exact Same.over (((s1.trans s2).trans s3).trans s4) np0
            · rw [upd_same, List.map_append]
            · have hh : ∀ {r xs}, H4 r = some (.tup xs) → upd H4 p (.lst (rs.map V.ref ++ rs2.map V.ref)) r = some (.tup xs) := fun h => by
                rw [upd_ne (ne_kind dp4 h)]
                exact h
              intro r' hr'
              rcases List.mem_append.mp hr' with m | m
              · obtain ⟨ps', t', p'⟩ := p1 r' m
                exact ⟨ps', hh (s4 _ _ (s3 _ _ (s2 _ _ t'))), p'⟩
              · obtain ⟨ps', t', p'⟩ := p4 r' m
                exact ⟨ps', hh t', p'⟩
            · rw [List.length_append, Nat.succ_mul]
              omega
      · rintro σ H1 ⟨v, rs, rfl, s1, d1, p1, l1⟩
        rw [List.length_map] at l1
        refine ⟨_, rfl, q H1 p rs s1 d1 p1 ?_⟩
        rw [hl'] at l1 ⊢
        exact l1
theorem pr_law_all (T : Txt K mg) : ∀ d : Nat, Pr P w K mg base (d + 2) "_law_all" ["_law_things"] (spAll d)
  | 0 => by
    obtain ⟨f, fd, F, hm⟩ := T.law_all
    exact law_all_step T 0 (sp0 := fun _ _ _ _ => False) ⟨f, fd, ⟨fun _ _ _ _ h => h.elim, fun _ _ _ _ _ _ _ _ _ _ _ _ _ h => h.elim⟩, hm, F.kp, FunD.bindsN F fun _ _ _ _ _ _ us hl => match us, hl with | [_], _ => rfl⟩ fun d' h => by omega
  | d + 1 => law_all_step T (d + 1) (pr_law_all T d) fun d' h => by
    obtain rfl : d = d' := by omega
    rfl
end
end Lb

set_option maxHeartbeats 2000000
/-! the pot: its making, its draws; mixed orders -/
namespace Lb
open PySem PySem.Spec PyProof.Rows L2
section
variable {P : Program} {w : World} {K : PySem.W.Frag} {mg : Str → Option Value} {base : Heap}
/-- all but the pot is as it was -/
def Kept (p : Addr) (H H' : Hp) : Prop := ∀ b o, b ≠ p → H b = some o → H' b = some o
theorem Kept.trans {p : Addr} {H H1 H2 : Hp} (a : Kept p H H1) (b : Kept p H1 H2) : Kept p H H2 := fun c o n h => b c o n (a c o n h)
theorem Kept.of {p : Addr} {H H' : Hp} (s : Same H H') : Kept p H H' := fun b o _ h => s b o h
theorem Kept.refl (p : Addr) (H : Hp) : Kept p H H := fun _ _ _ h => h
theorem Kept.pot {p : Addr} {H H' : Hp} {o : HO} (k : Kept p H H') : Kept p H (upd H' p o) := fun b x n h => by
  rw [upd_ne n]
  exact k b x n h
theorem Kept.over {p q : Addr} {H H' : Hp} {o : HO} (k : Kept p H H') (n : H q = none) : Kept p H (upd H' q o) := fun b x m h => by
  rw [upd_ne (ne_of_none h n)]
  exact k b x m h
def PotOk (H : Hp) (p : Addr) : Prop := ∃ x y : Int, H p = some (.lst [.int x, .int y]) ∧ 0 ≤ x ∧ 0 ≤ y ∧ y < 2147483648
theorem PotOk.same {H H' : Hp} {p : Addr} (h : PotOk H p) (s : Same H H') : PotOk H' p := by
  obtain ⟨x, y, hp, b⟩ := h
  exact ⟨x, y, s _ _ hp, b⟩
theorem PotOk.upd {H : Hp} {p q : Addr} {o : HO} (h : PotOk H p) (n : q ≠ p) : PotOk (upd H q o) p := by
  obtain ⟨x, y, hp, b⟩ := h
  exact ⟨x, y, by rw [upd_ne n.symm]; exact hp, b⟩
theorem PotOk.ne {H : Hp} {p q : Addr} (h : PotOk H p) (n : H q = none) : q ≠ p := by
  obtain ⟨x, y, hp, b⟩ := h
  exact (ne_of_none hp n).symm
theorem PotOk.neT {H : Hp} {p r : Addr} {ys : List V} (h : PotOk H p) (n : H r = some (.tup ys)) : r ≠ p := by
  obtain ⟨x, y, hp, b⟩ := h
  exact ne_kind hp n
/-! ### _law_draw -/
def spDraw : Sp := fun vs H Q _ => ∃ (p : Addr) (many : Int), vs = [.ref p, .int many] ∧ PotOk H p ∧ 1 ≤ many ∧ many ≤ 100 ∧ ∀ (H' : Hp) (d : Int), Kept p H H' → PotOk H' p → 0 ≤ d → d < many → Q (.int d) H'
theorem scDraw : FnScope ["_law_pot_here", "_law_many", "_law_digit"] ["_law_pot_here", "_law_many"] (defScope s_law_draw) := ⟨rfl, rfl, rfl, by decide +kernel, rfl, by decide +kernel, by decide +kernel⟩
theorem pr_law_draw (T : Txt K mg) : Pr P w K mg base 1 "_law_draw" ["_law_pot_here", "_law_many"] spDraw := by
  refine pr_of T.law_draw scDraw (fun vs H Q E h => ?_) (fun _ _ _ _ _ _ us hl => match us, hl with | [_, _], _ => rfl) (fun f cdv A outer s H vs Q E hr h => ?_)
  · obtain ⟨_, _, rfl, _⟩ := h
    rfl
  · obtain ⟨p, many, rfl, po, m1, m9, q⟩ := h
    obtain ⟨x, y, hp, x0, y0, y1⟩ := id po
    refine ⟨_, pss_cons (ps_if (pt_cmpR op_gt (pe_ix ix_list (pv 0) pe_int (fun _ _ => rfl)) pe_int (nomark _))
        (pss_cons (ps_asg (pe_callB call_divmod rfl T.divmod boot_divmod (pa_cons (pe_ix ix_list (pv 0) pe_int (fun _ _ => rfl)) (pa_cons (pv 1) pa_nil))) (pg_tup rfl (pgs_cons (pg_sub (pv 0) pe_int set_list) (pgs_cons (pg_name (i := 2) scDraw.nd rfl (Or.inl rfl)) pgs_nil))))
        (pss_one (ps_ret (pv 2)))) pss_nil)
      (pss_cons (ps_asg (pe_op op_mod (pe_callTy call_int1 rfl T.int PyProof.Rows.boot_int (pa_cons (pe_op op_add (pe_op op_mul (pe_ix ix_list (pv 0) pe_int (fun _ _ => rfl)) pe_int) pe_int) pa_nil)) pe_int) (pg_sub (pv 0) pe_int set_list))
      (pss_one (ps_ret (pe_op op_mod (pe_callTy call_int1 rfl T.int PyProof.Rows.boot_int (pa_cons (pe_op op_fdiv (pe_op op_mod (pe_callTy call_int1 rfl T.int PyProof.Rows.boot_int (pa_cons (pe_op op_mul (pe_ix ix_list (pv 0) pe_int (fun _ _ => rfl)) (pe_ix ix_list (pv 0) pe_int (fun _ _ => rfl))) pa_nil)) pe_int) pe_int) pa_nil)) (pv 1))))), ?_⟩
    have i0 : atI [V.int x, V.int y] 0 = some (.int x) := atI_nat (j := 0) rfl
    have i1 : atI [V.int x, V.int y] 1 = some (.int y) := atI_nat (j := 1) rfl
    refine ⟨_, rfl, p, _, 0, .int x, rfl, rfl, sq_lst hp, i0, x, 0, rfl, rfl, _, rfl, ite2 (fun e => ?_) (fun e => ?_)⟩
    · have e := of_decide_eq_true e
      refine ⟨_, rfl, p, _, 0, .int x, rfl, rfl, sq_lst hp, i0, _, rfl, x, many, rfl, ⟨by omega, by omega⟩, fun t nt => ?_⟩
      have tp : t ≠ p := po.ne nt
      refine ⟨t, _, rfl, sq_tup upd_same, rfl, _, _, rfl, ?_⟩
      refine ⟨_, rfl, p, _, 0, 0, rfl, rfl, same_upd nt _ _ hp, rfl, ?_⟩
      refine ⟨_, _, rfl, rfl, ?_⟩
      refine ⟨_, rfl, ?_⟩
      refine q _ _ (Kept.pot (Kept.of (same_upd nt))) ⟨x / many, y, upd_same, Int.ediv_nonneg x0 (by omega), y0, y1⟩ (Int.emod_nonneg _ (by omega)) (Int.emod_lt_of_pos _ (by omega))
    · refine ⟨_, rfl, p, _, 1, .int y, rfl, rfl, sq_lst hp, i1, y, 39373, rfl, rfl, .inl ⟨by omega, by omega⟩, y * 39373, 911, rfl, rfl, .inl ⟨_, rfl, _, 2147483629, rfl, rfl, (by show (0 : Int) < 2147483629; decide), ?_⟩⟩
      refine ⟨_, rfl, p, _, 1, 1, rfl, rfl, hp, rfl, ?_⟩
      have z0 : 0 ≤ (y * 39373 + 911) % 2147483629 := Int.emod_nonneg _ (by decide)
      have z1 : (y * 39373 + 911) % 2147483629 < 2147483629 := Int.emod_lt_of_pos _ (by decide)
      obtain ⟨z, hz⟩ : ∃ z : Int, z = (y * 39373 + 911) % 2147483629 := ⟨_, rfl⟩
      rw [← hz] at z0 z1
      have hp2 : upd H p (.lst ([V.int x, V.int y].set 1 (V.int ((y * 39373 + 911) % 2147483629)))) p = some (.lst [V.int x, V.int z]) := by rw [hz]; exact upd_same
      have j1 : atI [V.int x, V.int z] 1 = some (.int z) := atI_nat (j := 1) rfl
      refine ⟨_, rfl, p, _, 1, .int z, rfl, rfl, sq_lst hp2, j1, _, rfl, p, _, 1, .int z, rfl, rfl, sq_lst hp2, j1, z, z, rfl, rfl, .inl ⟨by omega, by omega⟩, .inl ⟨_, rfl, _, 2147483587, rfl, rfl, (by show (0 : Int) < 2147483587; decide), ?_⟩⟩
      refine ⟨_, 13, rfl, rfl, ⟨by decide, by decide⟩, .inl ⟨_, rfl, _, rfl, _, many, rfl, rfl, (by show 0 < many; omega), ?_⟩⟩
      exact q _ _ (Kept.pot (Kept.refl p H)) ⟨x, z, hp2, x0, z0, by omega⟩ (Int.emod_nonneg _ (by omega)) (Int.emod_lt_of_pos _ (by omega))
/-! ### _law_pot -/
def spPot : Sp := fun vs H Q _ => ∃ (a : Addr) (ns : List Int), vs = [.ref a, .int 0] ∧ SqL K H a (ns.map V.int) ∧ ∀ (H' : Hp) (p : Addr), Same H H' → PotOk H' p → Q (.ref p) H'
theorem scPot : FnScope ["_law_script", "_law_k", "_law_cell"] ["_law_script", "_law_k"] (defScope s_law_pot) := ⟨rfl, rfl, rfl, by decide +kernel, rfl, by decide +kernel, by decide +kernel⟩
theorem pr_law_pot (T : Txt K mg) : Pr P w K mg base 1 "_law_pot" ["_law_script", "_law_k"] (spPot (K := K)) := by
  refine pr_of T.law_pot scPot (fun vs H Q E h => ?_) (fun _ _ _ _ _ _ us hl => match us, hl with | [_, _], _ => rfl) (fun f cdv A outer s H vs Q E hr h => ?_)
  · obtain ⟨_, _, rfl, _⟩ := h
    rfl
  · obtain ⟨a, ns, rfl, ha, q⟩ := h
    refine ⟨_, pss_cons (ps_set (i := 2) scPot.nd rfl (Or.inl rfl) (pe_ifExp (pt_cmpR op_lt (pv 1) (pe_callB call_len_seq rfl T.len PySem.boot_len (pa_cons (pv 0) pa_nil)) (nomark _))
        (pe_callB call_abs rfl T.abs boot_abs (pa_cons (pe_ix ix_list (pv 0) (pv 1) (fun _ _ => rfl)) pa_nil)) (pe_op op_add (pe_op op_mul pe_int (pv 1)) pe_int)))
      (pss_one (ps_ret (pe_lst (pa_cons (pe_callB (call_max2 rfl) rfl T.max boot_max (pa_cons pe_int (pa_cons (pe_op op_sub (pv 2) (pe_op op_pow pe_int pe_int)) pa_nil)))
        (pa_cons (pe_op op_add (pe_op op_mod (pe_callTy call_int1 rfl T.int PyProof.Rows.boot_int (pa_cons (pe_op op_add (pe_op op_add (pe_op op_mul (pe_op op_mod (pe_callTy call_int1 rfl T.int PyProof.Rows.boot_int (pa_cons (pv 2) pa_nil)) pe_int) pe_int) (pe_op op_mul pe_int (pv 1))) pe_int) pa_nil)) pe_int) pe_int) pa_nil))))), ?_⟩
    refine ⟨_, rfl, _, rfl, a, _, rfl, .inl ha, 0, _, rfl, rfl, _, rfl, ite2 (fun e => ?_) (fun e => ?_)⟩
    · have e := of_decide_eq_true e
      obtain ⟨z, r, rfl⟩ : ∃ z r, ns = z :: r := by
        cases ns with
        | nil => exact absurd e (by decide)
        | cons z r => exact ⟨z, r, rfl⟩
      refine ⟨_, rfl, _, rfl, a, _, 0, .int z, rfl, rfl, ha, atI_nat (j := 0) rfl, z, rfl, ?_⟩
      generalize (if z < 0 then -z else z) = c
      refine ⟨_, rfl, 10, 18, rfl, rfl, ⟨by decide, by decide, by decide⟩, c, _, rfl, rfl, 0, _, rfl, ?_⟩
      refine ⟨_, rfl, .inl ⟨c, rfl, c, 2147483549, rfl, rfl, (by show (0 : Int) < 2147483549; decide), ?_⟩⟩
      have b0 : 0 ≤ c % 2147483549 := Int.emod_nonneg _ (by decide)
      have b1 : c % 2147483549 < 2147483549 := Int.emod_lt_of_pos _ (by decide)
      refine ⟨_, 48271, rfl, rfl, .inl ⟨by omega, by omega⟩, _, rfl, 6011, 0, rfl, rfl, .inl ⟨by decide, by decide⟩, _, _, rfl, rfl, _, 97, rfl, rfl, .inl ⟨_, rfl, _, 2147483579, rfl, rfl, (by show (0 : Int) < 2147483579; decide), _, 1, rfl, rfl, (by show 2 ≤ sizeLine; decide), fun p np => ?_⟩⟩
      have d0 : 0 ≤ (c % 2147483549 * 48271 + 6011 * 0 + 97) % 2147483579 := Int.emod_nonneg _ (by decide)
      have d1 : (c % 2147483549 * 48271 + 6011 * 0 + 97) % 2147483579 < 2147483579 := Int.emod_lt_of_pos _ (by decide)
      exact q _ p (same_upd np) ⟨_, _, upd_same, by split <;> omega, by omega, by omega⟩
    · refine ⟨_, rfl, 89, 0, rfl, rfl, .inl ⟨by decide, by decide⟩, _, 67, rfl, rfl, ?_⟩
      refine ⟨_, rfl, 10, 18, rfl, rfl, ⟨by decide, by decide, by decide⟩, _, _, rfl, rfl, 0, _, rfl, ?_⟩
      obtain ⟨c, hc⟩ : ∃ c : Int, c = 67 := ⟨67, rfl⟩
      refine ⟨_, rfl, .inl ⟨c, (by subst hc; rfl), c, 2147483549, rfl, rfl, (by show (0 : Int) < 2147483549; decide), ?_⟩⟩
      have b0 : 0 ≤ c % 2147483549 := Int.emod_nonneg _ (by decide)
      have b1 : c % 2147483549 < 2147483549 := Int.emod_lt_of_pos _ (by decide)
      refine ⟨_, 48271, rfl, rfl, .inl ⟨by omega, by omega⟩, _, rfl, 6011, 0, rfl, rfl, .inl ⟨by decide, by decide⟩, _, _, rfl, rfl, _, 97, rfl, rfl, .inl ⟨_, rfl, _, 2147483579, rfl, rfl, (by show (0 : Int) < 2147483579; decide), _, 1, rfl, rfl, (by show 2 ≤ sizeLine; decide), fun p np => ?_⟩⟩
      have d0 : 0 ≤ (c % 2147483549 * 48271 + 6011 * 0 + 97) % 2147483579 := Int.emod_nonneg _ (by decide)
      have d1 : (c % 2147483549 * 48271 + 6011 * 0 + 97) % 2147483579 < 2147483579 := Int.emod_lt_of_pos _ (by decide)
      exact q _ p (same_upd np) ⟨_, _, upd_same, by split <;> omega, by omega, by omega⟩
end
end Lb

set_option maxHeartbeats 2000000
/-! _law_pick, _law_mixed, _law_order -/
namespace Lb
open PySem PySem.Spec PyProof.Rows L2
section
variable {P : Program} {w : World} {K : PySem.W.Frag} {mg : Str → Option Value} {base : Heap}
theorem seq_at {i : Int} {n : Nat} (h0 : 0 ≤ i) (h1 : i < n) : seqIndex? i n = some i.toNat := by
  have e : (if i < 0 then i + (n : Int) else i) = i := if_neg (by omega)
  unfold seqIndex?
  simp only [e, decide_eq_true h0, decide_eq_true h1]
  rfl
theorem map_cut (ls : List Int) (j : Nat) : (ls.map V.int).eraseIdx j = (ls.eraseIdx j).map V.int := by
  rw [List.eraseIdx_eq_take_drop_succ, List.eraseIdx_eq_take_drop_succ, List.map_append, List.map_take, List.map_drop]
theorem cut_perm {ls : List Int} {j : Nat} (h : j < ls.length) : ([ls[j]] ++ ls.eraseIdx j).Perm ls := by
  have e : ls = ls.take j ++ ls[j] :: ls.drop (j + 1) := by
    rw [List.getElem_cons_drop, List.take_append_drop]
  rw [List.eraseIdx_eq_take_drop_succ]
  refine List.Perm.trans ?_ (List.Perm.of_eq e.symm)
  show (ls[j] :: (ls.take j ++ ls.drop (j + 1))).Perm _
  exact List.perm_middle.symm
/-! ### _law_pick -/
def spPick : Sp := fun vs H Q _ => ∃ (p l : Addr) (xs : List V), vs = [.ref p, .ref l] ∧ PotOk H p ∧ H l = some (.lst xs) ∧ l ≠ p ∧ 1 ≤ xs.length ∧ xs.length ≤ 9 ∧ ∀ (H' : Hp) (x : V), Kept p H H' → PotOk H' p → x ∈ xs → Q x H'
theorem scPick : FnScope ["_law_pot_here", "_law_some"] ["_law_pot_here", "_law_some"] (defScope s_law_pick) := ⟨rfl, rfl, rfl, by decide +kernel, rfl, by decide +kernel, by decide +kernel⟩
theorem pr_law_pick (T : Txt K mg) : Pr P w K mg base 2 "_law_pick" ["_law_pot_here", "_law_some"] spPick := by
  refine pr_of T.law_pick scPick (fun vs H Q E h => ?_) (fun _ _ _ _ _ _ us hl => match us, hl with | [_, _], _ => rfl) (fun f cdv A outer s H vs Q E hr h => ?_)
  · obtain ⟨_, _, _, rfl, _⟩ := h
    rfl
  · obtain ⟨p, l, xs, rfl, po, dl, lp, l1, l9, q⟩ := h
    refine ⟨_, pss_one (ps_ret (pe_ix ix_list (pv 1) (pe_callP (pr_law_draw T) hr (pa_cons (pv 0) (pa_cons (pe_callB call_len_seq rfl T.len PySem.boot_len (pa_cons (pv 1) pa_nil)) pa_nil))) (fun _ _ => rfl))), ?_⟩
    refine ⟨_, rfl, _, rfl, _, rfl, l, _, rfl, .inl (sq_lst dl), p, _, rfl, po, by omega, by omega, fun H1 d k1 po1 d0 d1 => ?_⟩
    obtain ⟨j, rfl⟩ := Int.eq_ofNat_of_zero_le d0
    have jl : j < xs.length := by omega
    exact ⟨l, xs, j, xs[j], rfl, rfl, sq_lst (k1 _ _ lp dl), atI_nat (List.getElem?_eq_getElem jl), q H1 _ k1 po1 (List.getElem_mem jl)⟩
/-! ### _law_mixed -/
def spMix : Sp := fun vs H Q _ => ∃ (p l : Addr) (ns : List Int), vs = [.ref p, .ref l] ∧ PotOk H p ∧ H l = some (.lst (ns.map V.int)) ∧ l ≠ p ∧ ns.length ≤ 9 ∧ ∀ (H' : Hp) (r : Addr) (ms : List Int), Kept p H H' → PotOk H' p → r ≠ p → H' r = some (.lst (ms.map V.int)) → ms.Perm ns → Q (.ref r) H'
abbrev nMix : List Str := ["_law_pot_here", "_law_some", "_law_left", "_law_found", "_law_turn"]
theorem scMix : FnScope nMix ["_law_pot_here", "_law_some"] (defScope s_law_mixed) := ⟨rfl, rfl, rfl, by decide +kernel, rfl, by decide +kernel, by decide +kernel⟩
theorem pr_law_mixed (T : Txt K mg) : Pr P w K mg base 2 "_law_mixed" ["_law_pot_here", "_law_some"] spMix := by
  refine pr_of T.law_mixed scMix (fun vs H Q E h => ?_) (fun _ _ _ _ _ _ us hl => match us, hl with | [_, _], _ => rfl) (fun f cdv A outer s H vs Q E hr h => ?_)
  · obtain ⟨_, _, _, rfl, _⟩ := h
    rfl
  · obtain ⟨p, l, ns, rfl, po, dl, lp, l9, q⟩ := h
    refine ⟨_, pss_cons (ps_par (i := 2) (j := 3) rfl scMix.nd rfl rfl (by decide) rfl rfl (pa_cons (pe_callTy call_list_of rfl T.list PyProof.Rows.boot_list (pa_cons (pv 1) pa_nil)) (pa_cons (pe_lst pa_nil) pa_nil)) (by rfl))
      (pss_cons (ps_for PassesOwn.never rfl (pi_range1 rfl T.range (pa_cons (pe_callB call_len_seq rfl T.len PySem.boot_len (pa_cons (pv 1) pa_nil)) pa_nil)) (pg_name (i := 4) scMix.nd rfl (Or.inl rfl))
        (pss_one (ps_expr (pe_bm PySem.F.plainAttrs_list PySem.F.slot_list_append PySem.F.type_list_append mt_append (pv 3)
          (pa_cons (pe_bm PySem.F.plainAttrs_list PySem.F.slot_list_pop PySem.F.type_list_pop mt_popAt (pv 2) (pa_cons (pe_callP (pr_law_draw T) hr (pa_cons (pv 0) (pa_cons (pe_callB call_len_seq rfl T.len PySem.boot_len (pa_cons (pv 2) pa_nil)) pa_nil))) pa_nil)) pa_nil)))))
      (pss_one (ps_ret (pv 3)))), ?_⟩
    refine ⟨_, rfl, l, _, rfl, .inl (sq_lst dl), fun a na => ?_⟩
    refine ⟨Nat.zero_le _, fun b nb => ⟨_, _, rfl, ?_⟩⟩
    have nbH : H b = none := Same.free (same_upd na) nb
    have ab : a ≠ b := ne_of_none upd_same nb
    have ap : a ≠ p := po.ne na
    have bp : b ≠ p := po.ne nbH
    refine ⟨_, rfl, l, _, rfl, .inl (sq_lst (same_upd nb _ _ (same_upd na _ _ dl))), _, rfl, by omega, by rw [List.length_map]; omega, ?_⟩
    have en : ((ns.map V.int).length : Int).toNat = ns.length := by rw [List.length_map, Int.toNat_natCast]
    refine for_range (lo := 0) (n := ((ns.map V.int).length : Int).toNat) (fun i σ H1 => ∃ (v : Option V) (ls fs : List Int), σ = [some (.ref p), some (.ref l), some (.ref a), some (.ref b), v] ∧ Kept p H H1 ∧ PotOk H1 p ∧ H1 a = some (.lst (ls.map V.int)) ∧ H1 b = some (.lst (fs.map V.int)) ∧ (fs ++ ls).Perm ns ∧ ls.length + i = ns.length)
      ⟨none, ns, [], rfl, Kept.of (Same.new (same_upd na) nb), po.same (Same.new (same_upd na) nb), same_upd nb _ _ upd_same, upd_same, .refl _, rfl⟩ ?_ ?_
    · rintro i σ H1 hi ⟨v, ls, fs, rfl, k1, po1, da, db, pm, ll⟩
      rw [en] at hi
      have lf := pm.length_eq
      rw [List.length_append] at lf
      refine ⟨_, rfl, .inl ⟨rfl, _, sq_lst db⟩, ?_⟩
      refine ⟨_, rfl, .inl ⟨rfl, _, sq_lst da⟩, ?_⟩
      refine ⟨_, rfl, _, rfl, a, _, rfl, .inl (sq_lst da), p, _, rfl, po1, by rw [List.length_map]; omega, by rw [List.length_map]; omega, fun H2 d k2 po2 d0 d1 => ?_⟩
      obtain ⟨j, rfl⟩ := Int.eq_ofNat_of_zero_le d0
      rw [List.length_map] at d1
      have jl : j < ls.length := by omega
      have da2 : H2 a = some (.lst (ls.map V.int)) := k2 _ _ ap da
      have db2 : H2 b = some (.lst (fs.map V.int)) := k2 _ _ bp db
      refine ⟨a, _, j, j, .int ls[j], rfl, rfl, da2, by omega, by omega, seq_at (by omega) (by rw [List.length_map]; omega), ?_, ?_⟩
      · rw [List.getElem?_map, List.getElem?_eq_getElem jl]; rfl
      · refine ⟨b, _, _, rfl, rfl, by rw [upd_ne ab.symm]; exact db2, ?_, ?_⟩
        · rw [List.length_map]; exact small1000 (by omega)
        · refine ⟨_, ls.eraseIdx j, fs ++ [ls[j]], rfl, ((k1.trans k2).over na).over nbH, (po2.upd ap).upd bp, ?_, ?_, ?_, ?_⟩
          · rw [upd_ne ab, upd_same, map_cut]
          · rw [upd_same, List.map_append]; rfl
          · rw [List.append_assoc]
            exact ((cut_perm jl).append_left fs).trans pm
          · rw [List.length_eraseIdx_of_lt jl]; omega
    · rintro σ H1 ⟨v, ls, fs, rfl, k1, po1, da, db, pm, ll⟩
      rw [en] at ll
      have e : ls = [] := List.length_eq_zero_iff.mp (by omega)
      subst e
      rw [List.append_nil] at pm
      exact ⟨_, rfl, q H1 b fs k1 po1 bp db pm⟩
/-! ### _law_order -/
def spOrd : Sp := fun vs H Q _ => ∃ (p : Addr) (n : Int), vs = [.ref p, .int n] ∧ PotOk H p ∧ 1 ≤ n ∧ n ≤ 9 ∧ ∀ (H' : Hp) (t : Addr) (ns : List Int), Kept p H H' → PotOk H' p → Tu H' t ns → LbM.Ord n.toNat ns → Q (.ref t) H'
theorem scOrd : FnScope ["_law_pot_here", "_law_size", "_law_way"] ["_law_pot_here", "_law_size"] (defScope s_law_order) := ⟨rfl, rfl, rfl, by decide +kernel, rfl, by decide +kernel, by decide +kernel⟩
theorem down_ord (n : Nat) : LbM.Ord n ((List.range n).map fun x => (n : Int) + (x : Nat) * (-1)) := by
  have e : ((List.range n).map fun x => (n : Int) + (x : Nat) * (-1)) = (LbM.rg 1 n).reverse := by
    refine List.ext_getElem ?_ fun i h1 h2 => ?_
    · rw [List.length_map, List.length_range, List.length_reverse, LbM.rg_len]
    · rw [List.length_map, List.length_range] at h1
      rw [List.getElem_map, List.getElem_range, List.getElem_reverse]
      simp only [LbM.rg, List.getElem_map, List.getElem_range, List.length_map, List.length_range]
      omega
  rw [e]
  exact List.reverse_perm _
theorem ord_a : LbM.Ord 4 [4, 2, 3, 1] := by show List.Perm _ _; decide
theorem ord_b : LbM.Ord 4 [3, 4, 1, 2] := by show List.Perm _ _; decide
theorem ord_c : LbM.Ord 5 [3, 5, 1, 4, 2] := by show List.Perm _ _; decide
theorem ord_d : LbM.Ord 5 [4, 2, 5, 1, 3] := by show List.Perm _ _; decide
theorem ord_e : LbM.Ord 5 [4, 5, 3, 1, 2] := by show List.Perm _ _; decide
theorem ord_f : LbM.Ord 5 [5, 2, 3, 4, 1] := by show List.Perm _ _; decide
theorem and_lt_eq {σ : L2.St} {H : Hp} {d n c : Int} {Q : Bool → Hp → Prop} (h2 : σ[2]? = some (some (.int d))) (h1 : σ[1]? = some (some (.int n))) (q1 : d < 4 ∧ n = c → Q true H) (q0 : ¬ (d < 4 ∧ n = c) → Q false H) :
    tAnd (tTest (tOp (rI0 fun i j => .bl (decide (i < j))) (tVar 2) (tC (.int 4)))) (tTest (tOp rEq (tVar 1) (tC (.int c)))) σ H Q := by
  refine ⟨_, h2, d, 4, rfl, rfl, _, rfl, ite2 (fun e => ?_) (fun e => ?_)⟩
  · have e := of_decide_eq_true e
    refine ⟨_, h1, rfl, decide (n = c), ?_, ?_⟩
    · congr 1
      exact decide_eq_decide.mpr ⟨fun h => V.int.inj h, fun h => by rw [h]⟩
    · by_cases z : n = c
      · rw [decide_eq_true z]; exact q1 ⟨e, z⟩
      · rw [decide_eq_false z]; exact q0 fun h => z h.2
  · exact q0 fun h => e (decide_eq_true h.1)
theorem pr_law_order (T : Txt K mg) : Pr P w K mg base 3 "_law_order" ["_law_pot_here", "_law_size"] spOrd := by
  refine pr_of T.law_order scOrd (fun vs H Q E h => ?_) (fun _ _ _ _ _ _ us hl => match us, hl with | [_, _], _ => rfl) (fun f cdv A outer s H vs Q E hr h => ?_)
  · obtain ⟨_, _, rfl, _⟩ := h
    rfl
  · obtain ⟨p, n, rfl, po, n1, n9, q⟩ := h
    refine ⟨_, pss_cons (ps_set (i := 2) scOrd.nd rfl (Or.inl rfl) (pe_callP (pr_law_draw T) (hr.mono (by decide)) (pa_cons (pv 0) (pa_cons pe_int pa_nil))))
      (pss_cons (ps_if (pt_cmpR op_eq (pv 2) pe_int (nomark _)) (pss_one (ps_ret (pe_tupRg rfl rfl T.tuple (prg_2 rfl T.range pe_int (pe_op op_add (pv 1) pe_int))))) pss_nil)
      (pss_cons (ps_if (pt_cmpR op_eq (pv 2) pe_int (nomark _)) (pss_one (ps_ret (pe_tupStep rfl rfl T.tuple rfl T.range (pa_cons (pv 1) (pa_cons pe_int (pa_cons (pe_un un_neg pe_int) pa_nil)))))) pss_nil)
      (pss_cons (ps_if (PW.pt (pw_and (pt_cmpR op_lt (pv 2) pe_int (nomark _)) (pw_and1 (pt_cmpR op_eq (pv 1) pe_int (nomark _)))))
        (pss_one (ps_ret (pe_callP (pr_law_pick T) hr (pa_cons (pv 0) (pa_cons (pe_lst (pa_cons (pe_tup (pa_cons pe_int (pa_cons pe_int (pa_cons pe_int (pa_cons pe_int pa_nil))))) (pa_cons (pe_tup (pa_cons pe_int (pa_cons pe_int (pa_cons pe_int (pa_cons pe_int pa_nil))))) pa_nil))) pa_nil))))) pss_nil)
      (pss_cons (ps_if (PW.pt (pw_and (pt_cmpR op_lt (pv 2) pe_int (nomark _)) (pw_and1 (pt_cmpR op_eq (pv 1) pe_int (nomark _)))))
        (pss_one (ps_ret (pe_callP (pr_law_pick T) hr (pa_cons (pv 0) (pa_cons (pe_lst (pa_cons (pe_tup (pa_cons pe_int (pa_cons pe_int (pa_cons pe_int (pa_cons pe_int (pa_cons pe_int pa_nil)))))) (pa_cons (pe_tup (pa_cons pe_int (pa_cons pe_int (pa_cons pe_int (pa_cons pe_int (pa_cons pe_int pa_nil))))))
          (pa_cons (pe_tup (pa_cons pe_int (pa_cons pe_int (pa_cons pe_int (pa_cons pe_int (pa_cons pe_int pa_nil)))))) (pa_cons (pe_tup (pa_cons pe_int (pa_cons pe_int (pa_cons pe_int (pa_cons pe_int (pa_cons pe_int pa_nil)))))) pa_nil))))) pa_nil))))) pss_nil)
      (pss_one (ps_ret (pe_tupleOf rfl T.tuple (pe_callP (pr_law_mixed T) hr (pa_cons (pv 0) (pa_cons (pe_listRg rfl rfl T.list (prg_2 rfl T.range pe_int (pe_op op_add (pv 1) pe_int))) pa_nil)))))))))), ?_⟩
    refine ⟨_, rfl, p, 9, rfl, po, by decide, by decide, fun H1 d k1 po1 d0 d1 => ?_⟩
    refine ⟨_, rfl, rfl, _, rfl, ite2 (fun _ => ?_) (fun _ => ?_)⟩
    · refine ⟨_, rfl, n, 1, rfl, rfl, 1, n + 1, rfl, rfl, RgOk.of_le (by omega) (by omega) (by omega) (by omega), fun t nt => q _ t (LbM.rg 1 n.toNat) (k1.trans (Kept.of (same_upd nt))) (po1.same (same_upd nt)) ?_ (.refl _)⟩
      show upd H1 t _ t = _
      rw [upd_same, rgV_rg, show (n + 1 - 1).toNat = n.toNat by congr 1; omega]
    refine ⟨_, rfl, rfl, _, rfl, ite2 (fun _ => ?_) (fun _ => ?_)⟩
    · refine ⟨_, rfl, 1, rfl, n, 0, -1, (n - 0).toNat, rfl, RgC.neg (by omega) (by omega) (by omega) (by omega), by omega, fun t nt => ?_⟩
      refine q _ t ((List.range n.toNat).map fun x => (n.toNat : Int) + (x : Nat) * (-1)) (k1.trans (Kept.of (same_upd nt))) (po1.same (same_upd nt)) ?_ (down_ord _)
      show upd H1 t _ t = _
      rw [upd_same, List.map_map, show (n - 0).toNat = n.toNat by congr 1; omega, show (n.toNat : Int) = n by omega]
      rfl
    -- the hard ones
    refine and_lt_eq (d := d) (n := n) (c := 4) rfl rfl (fun h => ?_) (fun _ => ?_)
    · obtain ⟨_, rfl⟩ := h
      refine ⟨_, rfl, (by show 4 ≤ sizeLine; decide), fun t0 n0 => ⟨(by show 4 ≤ sizeLine; decide), fun t1 n1 => ⟨(by show 2 ≤ sizeLine; decide), fun l nl => ?_⟩⟩⟩
      have po2 := po1.same (Same.new (o := .lst [.ref t0, .ref t1]) (Same.new (same_upd n0) n1) nl)
      have lp : l ≠ p := (po1.same (Same.new (same_upd n0) n1)).ne nl
      refine ⟨p, l, _, rfl, po2, upd_same, lp, Nat.le_add_left _ _, (by show List.length _ ≤ 9; simp only [List.length_cons, List.length_nil]; decide), fun H2 x k2 po3 hx => ?_⟩
      have kk : Kept p H H2 := k1.trans ((Kept.of (Same.new (o := .lst [.ref t0, .ref t1]) (Same.new (same_upd n0) n1) nl)).trans k2)
      simp only [List.mem_cons, List.not_mem_nil, or_false] at hx
      rcases hx with rfl | rfl
      · exact q H2 t0 [4, 2, 3, 1] kk po3 (k2 _ _ (po2.neT (same_upd nl _ _ (same_upd n1 _ _ (upd_same)))) (same_upd nl _ _ (same_upd n1 _ _ (upd_same)))) ord_a
      · exact q H2 t1 [3, 4, 1, 2] kk po3 (k2 _ _ (po2.neT (same_upd nl _ _ (upd_same))) (same_upd nl _ _ (upd_same))) ord_b
    refine and_lt_eq (d := d) (n := n) (c := 5) rfl rfl (fun h => ?_) (fun _ => ?_)
    · obtain ⟨_, rfl⟩ := h
      refine ⟨_, rfl, (by show 5 ≤ sizeLine; decide), fun t0 n0 => ⟨(by show 5 ≤ sizeLine; decide), fun t1 n1 => ⟨(by show 5 ≤ sizeLine; decide), fun t2 n2 => ⟨(by show 5 ≤ sizeLine; decide), fun t3 n3 => ⟨(by show 4 ≤ sizeLine; decide), fun l nl => ?_⟩⟩⟩⟩⟩
      have po2 := po1.same (Same.new (o := .lst [.ref t0, .ref t1, .ref t2, .ref t3]) (Same.new (Same.new (Same.new (same_upd n0) n1) n2) n3) nl)
      have lp : l ≠ p := (po1.same (Same.new (Same.new (Same.new (same_upd n0) n1) n2) n3)).ne nl
      refine ⟨p, l, _, rfl, po2, upd_same, lp, Nat.le_add_left _ _, (by show List.length _ ≤ 9; simp only [List.length_cons, List.length_nil]; decide), fun H2 x k2 po3 hx => ?_⟩
      have kk : Kept p H H2 := k1.trans ((Kept.of (Same.new (o := .lst [.ref t0, .ref t1, .ref t2, .ref t3]) (Same.new (Same.new (Same.new (same_upd n0) n1) n2) n3) nl)).trans k2)
      simp only [List.mem_cons, List.not_mem_nil, or_false] at hx
      rcases hx with rfl | rfl | rfl | rfl
      · exact q H2 t0 [3, 5, 1, 4, 2] kk po3 (k2 _ _ (po2.neT (same_upd nl _ _ (same_upd n3 _ _ (same_upd n2 _ _ (same_upd n1 _ _ (upd_same)))))) (same_upd nl _ _ (same_upd n3 _ _ (same_upd n2 _ _ (same_upd n1 _ _ (upd_same)))))) ord_c
      · exact q H2 t1 [4, 2, 5, 1, 3] kk po3 (k2 _ _ (po2.neT (same_upd nl _ _ (same_upd n3 _ _ (same_upd n2 _ _ (upd_same))))) (same_upd nl _ _ (same_upd n3 _ _ (same_upd n2 _ _ (upd_same))))) ord_d
      · exact q H2 t2 [4, 5, 3, 1, 2] kk po3 (k2 _ _ (po2.neT (same_upd nl _ _ (same_upd n3 _ _ (upd_same)))) (same_upd nl _ _ (same_upd n3 _ _ (upd_same)))) ord_e
      · exact q H2 t3 [5, 2, 3, 4, 1] kk po3 (k2 _ _ (po2.neT (same_upd nl _ _ (upd_same))) (same_upd nl _ _ (upd_same))) ord_f
    refine ⟨_, rfl, _, rfl, n, 1, rfl, rfl, 1, n + 1, rfl, rfl, RgOk.of_le (by omega) (by omega) (by omega) (by omega), fun l nl => ?_⟩
    have dl : (upd H1 l (.lst (rgV 1 (n + 1)))) l = some (.lst ((LbM.rg 1 n.toNat).map V.int)) := by
      rw [upd_same, rgV_rg, show (n + 1 - 1).toNat = n.toNat by congr 1; omega]
    refine ⟨p, l, LbM.rg 1 n.toNat, rfl, po1.same (same_upd nl), dl, po1.ne nl, by rw [LbM.rg_len]; omega, fun H2 r ms k2 po2 rp dr pm => ?_⟩
    refine .inl ⟨r, _, rfl, sq_lst dr, fun t nt => q _ t ms ((k1.trans (Kept.of (same_upd nl))).trans (k2.trans (Kept.of (same_upd nt)))) (po2.same (same_upd nt)) upd_same pm⟩
end
end Lb

set_option maxHeartbeats 4000000
/-! _law_one_right -/
namespace Lb
open PySem PySem.Spec PyProof.Rows L2
/-! ### small ints are shown in short -/
def Small (ns : List Int) : Prop := ∀ x ∈ ns, 1 ≤ x ∧ x ≤ 9
theorem small_int {x : Int} (h : 1 ≤ x ∧ x ≤ 9) : PyData.showable (.int x) = true ∧ PyData.leavesShort 8 (.int x) = true := by
  have : x = 1 ∨ x = 2 ∨ x = 3 ∨ x = 4 ∨ x = 5 ∨ x = 6 ∨ x = 7 ∨ x = 8 ∨ x = 9 := by omega
  rcases this with rfl | rfl | rfl | rfl | rfl | rfl | rfl | rfl | rfl <;> decide +kernel
theorem show_ints : ∀ {ns : List Int}, Small ns → PyData.showableAll (ns.map PyData.int) = true ∧ PyData.leavesShortAll 8 (ns.map PyData.int) = true ∧ PyData.bulkAll (ns.map PyData.int) = ns.length ∧ PyData.hasDictAll (ns.map PyData.int) = false
  | [], _ => ⟨rfl, rfl, rfl, rfl⟩
  | x :: ns, h => by
    obtain ⟨a, b⟩ := small_int (h x List.mem_cons_self)
    obtain ⟨c, d, e, g⟩ := show_ints (ns := ns) fun y hy => h y (List.mem_cons_of_mem _ hy)
    refine ⟨?_, ?_, ?_, ?_⟩
    · show (PyData.showable (.int x) && PyData.showableAll (ns.map PyData.int)) = true
      rw [a, c]; rfl
    · show (PyData.leavesShort 8 (.int x) && PyData.leavesShortAll 8 (ns.map PyData.int)) = true
      rw [b, d]; rfl
    · show PyData.bulk (.int x) + 1 + PyData.bulkAll (ns.map PyData.int) = ns.length + 1
      rw [e]
      show 0 + 1 + ns.length = ns.length + 1
      omega
    · show (PyData.hasDict (.int x) || PyData.hasDictAll (ns.map PyData.int)) = false
      rw [g]; rfl
def dTwo (ns : List Int) : PyData := .list [.tuple (ns.map PyData.int), .tuple (ns.map PyData.int)]
structure Shows (d : PyData) : Prop where
  sh : d.showable = true
  nd : d.hasDict = false
  dp : d.depth ≤ 60
  fits : d.shown.length ≤ sizeLine
theorem show_two {ns : List Int} (h : Small ns) (l : ns.length ≤ 9) : Shows (dTwo ns) := by
  obtain ⟨c, d, e, g⟩ := show_ints h
  refine ⟨?_, ?_, ?_, ?_⟩
  · show (PyData.showableAll (ns.map PyData.int) && (PyData.showableAll (ns.map PyData.int) && true)) = true
    rw [c]; rfl
  · show (PyData.hasDictAll (ns.map PyData.int) || (PyData.hasDictAll (ns.map PyData.int) || false)) = false
    rw [g]; rfl
  · have := depth_ints ns
    show max (PyData.depthAll (ns.map PyData.int) + 1) (max (PyData.depthAll (ns.map PyData.int) + 1) 0) + 1 ≤ 60
    omega
  · have b := PyData.shown_le_bulk 8 (Nat.le_refl _) (dTwo ns) (by
      show (PyData.leavesShortAll 8 (ns.map PyData.int) && (PyData.leavesShortAll 8 (ns.map PyData.int) && true)) = true
      rw [d]; rfl)
    have e2 : (dTwo ns).bulk = PyData.bulkAll (ns.map PyData.int) + 1 + (PyData.bulkAll (ns.map PyData.int) + 1 + 0) := rfl
    rw [e2, e] at b
    exact Nat.le_of_lt (small1000 (by omega))
theorem dp_two {K : PySem.W.Frag} {H : Hp} {l a b : Addr} {ns : List Int} (hl : H l = some (.lst [.ref a, .ref b])) (ha : Tu H a ns) (hb : Tu H b ns) : Dp K H (.ref l) (dTwo ns) :=
  .lst (sq_lst hl) (.cons (.tup ha.sq (dp_ints _)) (.cons (.tup hb.sq (dp_ints _)) .nil))
theorem isord_of {n : Nat} {ns : List Int} (h : LbM.Ord n ns) (h1 : 1 ≤ n) (h9 : n ≤ 9) : IsOrd ns := ⟨by rw [h.len]; exact h, by rw [h.len]; exact h1, by rw [h.len]; exact h9⟩
section
variable {P : Program} {w : World} {K : PySem.W.Frag} {mg : Str → Option Value} {base : Heap}
/-- at rs orders of 1 .. n -/
def Ords (H : Hp) (rs : List Addr) (n : Nat) : Prop := ∀ r ∈ rs, ∃ ps, Tu H r ps ∧ LbM.Ord n ps
def spOne : Sp := fun vs H Q _ => ∃ (c o : Addr) (n m k many : Int) (rs : List Addr), vs = [.int n, .ref c, .int many, .ref o] ∧ Tu H c [m, k] ∧ LbM.Cn n m k many ∧ H o = some (.lst (rs.map V.ref)) ∧ Ords H rs n.toNat ∧ ∀ H', Same H H' → Q (.bl true) H'
abbrev nOne : List Str := ["_law_size", "_law_corner", "_law_many", "_law_orders", "_law_due", "_law_told", "_law_order_here", "_law_has"]
theorem scOne : FnScope nOne ["_law_size", "_law_corner", "_law_many", "_law_orders"] (defScope s_law_one_right) := ⟨rfl, rfl, rfl, by decide +kernel, rfl, by decide +kernel, by decide +kernel⟩
/-- a def of the text by FnG, with its name and its binding -/
structure PrG (P : Program) (w : World) (K : PySem.W.Frag) (mg : Str → Option Value) (base : Heap) (k : Nat) (x : Str) (ps : List Str) (sp : Sp) : Prop where
  ex : ∃ f fd, FnG P w K mg base k f fd ps sp ∧ mg x = some (.ref f) ∧ PySem.W.keepIn K (.ref f) = true ∧ Binds K fd ps []
theorem pe_callPG {X : Cx} {k : Nat} {x : Str} {ps : List Str} {sp : Sp} {p pos : Pos} {e : Expr} {es : List Expr} {t : TA} (G : PrG X.prog X.w X.K X.mg X.base k x ps sp) (hr : Room k X.A) (calm : X.A.guards = some []) (ha : PA X (e :: es) t) (hg : Gl X x := by rfl) (h1 : (x == ("__debug__" : Str)) = false := by decide)
    (h2 : starEach (e :: es) X.env = (false, eval e X.env) :: starEach es X.env := by rfl) (h3 : (backTo pos (starEach es X.env)).any (·.1) = false := by rfl) :
    PE X (.Call (.Name x p) (e :: es) [] pos) (fun σ H Q => t σ H fun vs H1 => sp vs H1 Q E0) := by
  obtain ⟨f, fd, F, hm, hk, hb⟩ := G.ex
  exact pe_callG F hr calm hg hm hk hb ha h1 h2 h3
theorem prG_of {x : Str} {st : Stmt} {k : Nat} {N ps : List Str} {sp : Sp} (H : Has K mg x st) (S : FnScope N ps (defScope st)) (many : ∀ vs H Q, sp vs H Q E0 → vs.length = ps.length)
    (bind : ∀ (kV doc pm : Value) (an : Option Addr) (cdv ct : Value) (us : List Value), us.length = ps.length → bindArgs (PySem.W.fnOf x x (defArgs st) (defBody st) (defScope st) .none kV doc pm an cdv ct) ⟨us, []⟩ = pure (ps.zip us))
    (body : ∀ (f : Addr) (cdv : Value) (A : Around) (outer : List Env) (s : Shared) (H : Hp) (vs : List V) (Q : VK), Room k (A.deeper (envOfC x (defScope st) s.heap.objs.size f cdv)) → (A.deeper (envOfC x (defScope st) s.heap.objs.size f cdv)).guards = some [] → sp vs H Q E0 →
      ∃ t, PSs (cxOf CX0 P w K mg base N x (defScope st) f cdv A outer s H E0).nox (defBody st) t ∧ t { nx := fun _ H' => Q .non H', rt := Q } (start N vs) H) : PrG P w K mg base (k + 1) x ps sp := by
  obtain ⟨f, fd, F, hm⟩ := H
  refine ⟨f, fd, ?_, hm, F.kp, FunD.bindsN F bind⟩
  refine fnG F S many fun cdv A outer s H vs Q hr calm h => ?_
  obtain ⟨t, h1, h2⟩ := body f cdv A outer s H vs Q hr calm h
  exact ⟨t, h1.nox, h2⟩
theorem pr_law_one_right (T : Txt K mg) : PrG P w K mg base 8 "_law_one_right" ["_law_size", "_law_corner", "_law_many", "_law_orders"] spOne := by
  refine prG_of T.law_one_right scOne (fun vs H Q h => ?_) (fun _ _ _ _ _ _ us hl => match us, hl with | [_, _, _, _], _ => rfl) (fun f cdv A outer s H vs Q hr calm h => ?_)
  · obtain ⟨_, _, _, _, _, _, _, rfl, _⟩ := h
    rfl
  · obtain ⟨c, o, n, m, k, many, rs, rfl, hc, C, ho, os, q⟩ := h
    obtain ⟨n1, n9, m1, mn, k1, kn, c0, cm, ck⟩ := id C
    obtain ⟨fW, fdW, GW, hmW, FW⟩ := prD_least_with (P := P) (w := w) (base := base) T
    have lo := LbM.least_ord C
    have ll : (LbM.least n m k many).length = n.toNat := lo.len
    have O := isord_of lo (by omega) (by omega)
    have sm : Small (LbM.least n m k many) := fun x hx => ⟨lo.pos x hx, by have := lo.le x hx; omega⟩
    have S2 := show_two sm (by omega)
    refine ⟨_, pss_cons (ps_par (i := 4) (j := 5) rfl scOne.nd rfl rfl (by decide) rfl rfl (pa_cons (pe_callP (pr_law_least T) (hr.mono (by decide)) (pa_cons (pv 0) (pa_cons (pv 1) (pa_cons (pv 2) pa_nil)))) (pa_cons (pe_callP (pr_least_with T) (hr.mono (by decide)) (pa_cons (pv 0) (pa_cons (pv 1) (pa_cons (pv 2) pa_nil)))) pa_nil)) (by rfl))
      (pss_cons (ps_if (pt_cmpR op_ne (pe_callB (cr_reprD calm hr.units) rfl T.repr boot_repr (pa_cons (pe_lst (pa_cons (pv 5) (pa_cons (pe_callKw (E := E0) GW (hr.mono (by decide)) rfl hmW FW.kp (kb_least_with FW) pass0 (pk_cons (pv 2) (pk_cons (pv 1) (pk_cons (pv 0) pk_nil)))) pa_nil))) pa_nil))
          (pe_callB (cr_reprD calm hr.units) rfl T.repr boot_repr (pa_cons (pe_lst (pa_cons (pv 4) (pa_cons (pv 4) pa_nil))) pa_nil)) (nomark _)) (pss_one (ps_ret pe_bl)) pss_nil)
      (pss_cons (ps_if (pt_cmpR op_lt (pe_callP (pr_counted T) (hr.mono (by decide)) (pa_cons (pv 5) (pa_cons (pv 1) pa_nil))) (pv 2) (nomark _)) (pss_one (ps_ret pe_bl)) pss_nil)
      (pss_cons (ps_for PassesOwn.never rfl (pi_list (pv 3)) (pg_name (i := 6) scOne.nd rfl (Or.inl rfl))
        (pss_cons (ps_set (i := 7) scOne.nd rfl (Or.inl rfl) (pe_cmpR op_ge (pe_callP (pr_law_count T) (hr.mono (by decide)) (pa_cons (pv 6) (pa_cons (pv 1) pa_nil))) (pv 2) (nomark _)))
        (pss_one (ps_if (PW.pt (pw_or (pt_cmpR op_ne (pv 7) (pe_callP (pr_law_lower T) (hr.mono (by decide)) (pa_cons (pv 4) (pa_cons (pv 6) pa_nil))) (nomark _)) (pw_or1 (pt_cmpR op_ne (pe_callP (pr_is_below T) (hr.mono (by decide)) (pa_cons (pv 5) (pa_cons (pv 6) pa_nil))) (pv 7) (nomark _))))) (pss_one (ps_ret pe_bl)) pss_nil))))
      (pss_one (ps_ret pe_bl))))), ?_⟩
    refine ⟨_, rfl, _, rfl, _, rfl, c, n, m, k, many, rfl, hc, C, fun H1 d s1 td => ?_⟩
    refine ⟨_, rfl, _, rfl, _, rfl, c, n, m, k, many, rfl, s1 _ _ hc, C, fun H2 t s2 tt => ?_⟩
    refine ⟨_, _, rfl, ?_⟩
    -- repr
    have hc2 : Tu H2 c [m, k] := s2 _ _ (s1 _ _ hc)
    refine ⟨_, rfl, _, rfl, _, rfl, _, rfl, c, n, m, k, many, rfl, hc2, C, fun H3 t2 s3 tt2 => ?_⟩
    refine ⟨(by show 2 ≤ sizeLine; decide), fun l1 nl1 => ?_⟩
    refine ⟨l1, dTwo (LbM.least n m k many), rfl, dp_two upd_same (same_upd nl1 _ _ (s3 _ _ tt)) (same_upd nl1 _ _ tt2), S2.sh, S2.nd, S2.dp, S2.fits, ?_⟩
    have td3 : Tu H3 d (LbM.least n m k many) := s3 _ _ (s2 _ _ td)
    refine ⟨_, rfl, _, rfl, (by show 2 ≤ sizeLine; decide), fun l2 nl2 => ?_⟩
    refine ⟨l2, dTwo (LbM.least n m k many), rfl, dp_two upd_same (same_upd nl2 _ _ (same_upd nl1 _ _ td3)) (same_upd nl2 _ _ (same_upd nl1 _ _ td3)), S2.sh, S2.nd, S2.dp, S2.fits, rfl, _, rfl, iteNS rfl ?_⟩
    have s4 : Same H _ := ((s1.trans s2).trans s3).trans (Same.new (o := .lst [.ref d, .ref d]) (same_upd (o := .lst [.ref t, .ref t2]) nl1) nl2)
    have tt4 : Tu _ t (LbM.least n m k many) := (Same.new (o := .lst [.ref d, .ref d]) (same_upd (o := .lst [.ref t, .ref t2]) nl1) nl2) _ _ (s3 _ _ tt)
    have td4 : Tu _ d (LbM.least n m k many) := (Same.new (o := .lst [.ref d, .ref d]) (same_upd (o := .lst [.ref t, .ref t2]) nl1) nl2) _ _ td3
    revert s4 tt4 td4
    generalize (upd (upd H3 l1 (.lst [.ref t, .ref t2])) l2 (.lst [.ref d, .ref d])) = H4
    intro s4 tt4 td4
    -- counted
    refine ⟨_, rfl, _, rfl, t, c, _, m, k, rfl, tt4, s4 _ _ hc, O, m1, by rw [ll]; omega, k1, by rw [ll]; omega, fun H5 s5 => ?_⟩
    refine ⟨_, rfl, _, many, rfl, rfl, _, rfl, ite2 (fun e => ?_) (fun _ => ?_)⟩
    · have e := of_decide_eq_true e
      have := LbM.least_cnt_ge C
      omega
    have s5 : Same H H5 := s4.trans s5
    have tt5 : Tu H5 t (LbM.least n m k many) := (show Same H4 H5 from by assumption) _ _ tt4
    have td5 : Tu H5 d (LbM.least n m k many) := (show Same H4 H5 from by assumption) _ _ td4
    -- the loop
    refine ⟨_, rfl, o, rfl, ⟨_, sq_lst (s5 _ _ ho)⟩, for_list (K := K) (a := o) (xs := rs.map V.ref) (fun i σ H6 => ∃ v w : Option V, σ = [some (.int n), some (.ref c), some (.int many), some (.ref o), some (.ref d), some (.ref t), v, w] ∧ Same H5 H6) ⟨none, none, rfl, Same.refl _⟩ (fun i σ H6 _ h => ?_) ?_ ?_⟩
    · obtain ⟨_, _, _, s6⟩ := h
      exact sq_lst (s6 _ _ (s5 _ _ ho))
    · rintro i x σ H6 hi ⟨v, w, rfl, s6⟩
      obtain ⟨r, gr, rfl⟩ := map_at hi
      obtain ⟨ps, tr, pO⟩ := os r (List.mem_of_getElem? gr)
      have Op := isord_of pO (by omega) (by omega)
      have tr6 : Tu H6 r ps := s6 _ _ (s5 _ _ tr)
      have key := LbM.least_low C pO
      refine ⟨_, rfl, _, rfl, r, c, ps, m, k, rfl, tr6, s6 _ _ (s5 _ _ hc), by omega, Op.n9, fun H7 s7 => ?_⟩
      refine ⟨_, rfl, _, many, rfl, rfl, ?_⟩
      have e1 : ∀ {b : Bool}, (b = true ↔ LbM.Low (LbM.least n m k many) ps) → b = decide (many ≤ (LbM.cnt ps m.toNat k : Int)) := fun {b} h => by
        rw [Bool.eq_iff_iff, h, key, decide_eq_true_iff]
      refine ⟨_, rfl, _, rfl, _, rfl, d, r, _, ps, rfl, s7 _ _ (s6 _ _ td5), s7 _ _ tr6, O, Op, by rw [ll, pO.len], fun H8 b s8 hb => ?_⟩
      refine ⟨rfl, _, rfl, ?_⟩
      rw [e1 hb]
      refine iteNS rfl ?_
      refine ⟨_, rfl, _, rfl, t, r, _, ps, rfl, s8 _ _ (s7 _ _ (s6 _ _ tt5)), s8 _ _ (s7 _ _ tr6), O, Op, by rw [ll, pO.len], fun H9 b' s9 hb' => ?_⟩
      refine ⟨_, rfl, rfl, _, rfl, ?_⟩
      rw [e1 hb']
      exact iteNS rfl ⟨_, _, rfl, ((Same.trans s6 s7).trans s8).trans s9⟩
    · rintro σ H6 ⟨v, w, rfl, s6⟩
      exact q _ (s5.trans s6)
end
end Lb

set_option maxHeartbeats 4000000
/-! _law_right, law -/
namespace Lb
open PySem PySem.Spec PyProof.Rows L2
section
variable {P : Program} {w : World} {K : PySem.W.Frag} {mg : Str → Option Value} {base : Heap}
theorem rg_nodup (a : Int) : ∀ n : Nat, (LbM.rg a n).Nodup
  | 0 => .nil
  | n + 1 => by
    rw [LbM.rg_succ, List.nodup_append]
    refine ⟨rg_nodup a n, (by simp), fun x hx y hy => ?_⟩
    have h1 := (LbM.mem_rg.mp hx).2
    have h2 : y = a + (n : Int) := by simpa using hy
    omega
theorem pe_tupleK {X : Cx} {K : PySem.W.Frag} {a : Expr} {ta : TE} {p pos : Pos} (hk : X.K = K) (hg : Gl X "tuple") (hm : X.mg "tuple" = none) (ha : PE X a ta) (na : starEach [a] X.env = (false, eval a X.env) :: starEach [] X.env := by rfl) :
    PE X (.Call (.Name "tuple" p) [a] [] pos) (tThen ta (kTup K)) := by
  subst hk
  exact pe_tupleOf hg hm ha na
def spRight : Sp := fun vs H Q _ => ∃ p : Addr, vs = [.ref p] ∧ PotOk H p ∧ ∀ H', Q (.bl true) H'
abbrev nRight : List Str := ["_law_pot_here", "_law_size", "_law_orders", "_law_corner", "_law_many", "_law_wide", "_law_turn"]
theorem scRight : FnScope nRight ["_law_pot_here"] (defScope s_law_right) := ⟨rfl, rfl, rfl, by decide +kernel, rfl, by decide +kernel, by decide +kernel⟩
/-- the order lists stand while all but the pot is as it was -/
theorem Ords.kept {H H' : Hp} {p : Addr} {rs : List Addr} {n : Nat} (h : Ords H rs n) (po : PotOk H p) (k : Kept p H H') : Ords H' rs n := fun r hr => by
  obtain ⟨ps, t, o⟩ := h r hr
  exact ⟨ps, k _ _ (po.neT t) t, o⟩
theorem Ords.snoc {H : Hp} {D t : Addr} {rs : List Addr} {n : Nat} {xs ys : List V} {ms : List Int} (h : Ords H rs n) (hD : H D = some (.lst xs)) (ht : Tu H t ms) (o : LbM.Ord n ms) : Ords (upd H D (.lst ys)) (rs ++ [t]) n := fun r hr => by
  have hh : ∀ {r zs}, H r = some (.tup zs) → upd H D (.lst ys) r = some (.tup zs) := fun h => by
    rw [upd_ne (ne_kind hD h)]
    exact h
  rcases List.mem_append.mp hr with z | z
  · obtain ⟨qs, t', o'⟩ := h r z
    exact ⟨qs, hh t', o'⟩
  · obtain rfl : r = t := by simpa using z
    exact ⟨ms, hh ht, o⟩
theorem pr_law_right (T : Txt K mg) : PrG P w K mg base 9 "_law_right" ["_law_pot_here"] spRight := by
  refine prG_of T.law_right scRight (fun vs H Q h => ?_) (fun _ _ _ _ _ _ us hl => match us, hl with | [_], _ => rfl) (fun f cdv A outer s H vs Q hr calm h => ?_)
  · obtain ⟨_, rfl, _⟩ := h
    rfl
  · obtain ⟨p, rfl, po, q⟩ := h
    refine ⟨_, pss_cons (ps_set (i := 1) scRight.nd rfl (Or.inr rfl) (pe_op op_add pe_int (pe_callP (pr_law_draw T) (hr.mono (by decide)) (pa_cons (pv 0) (pa_cons pe_int pa_nil)))))
      (C8.pss_cut (ps_if (pt_cmpR op_lt (pv 1) pe_int (nomark _))
        (pss_one (ps_set (i := 2) scRight.nd rfl (Or.inl rfl) (pe_callP (pr_law_all T 3) (hr.mono (by decide)) (pa_cons (pe_listRg rfl rfl T.list (prg_2 rfl T.range pe_int (pe_op op_add (pv 1) pe_int))) pa_nil))))
        (pss_one (ps_setLc (i := 2) (own := [("_law_turn", 6)]) (g := gName 6) (tt := tYes) rfl scRight.nd rfl rfl (sw_true rfl rfl rfl (by decide +kernel)) (pi_range1 rfl T.range (pa_cons pe_int pa_nil)) (blkOk_by (N := nRight) (sc := defScope s_law_right) (by decide +kernel))
          (fun _ _ _ _ _ => pg_name (i := 6) scRight.nd rfl (Or.inl rfl)) (fun _ _ _ _ _ => pts_nil) (fun _ _ _ _ _ => pe_callP (pr_law_order T) (hr.mono (by decide)) (pa_cons (pv 0) (pa_cons (pv 1) pa_nil))))))
      (pss_cons (ps_for PassesOwn.never rfl (pi_list (pe_callP (pr_law_corners T) (hr.mono (by decide)) (pa_cons (pv 1) pa_nil))) (pg_name (i := 3) scRight.nd rfl (Or.inl rfl))
        (pss_one (ps_for PassesOwn.never rfl (pi_range1 rfl T.range (pa_cons (pe_op op_add (pe_callB (call_min2 rfl) rfl T.min boot_min (pa_cons (pe_ix ix_tup (pv 3) pe_int (fun _ _ => rfl)) (pa_cons (pe_op op_add (pe_op op_sub (pv 1) (pe_ix ix_tup (pv 3) pe_int (fun _ _ => rfl))) pe_int) pa_nil))) pe_int) pa_nil)) (pg_name (i := 4) scRight.nd rfl (Or.inl rfl))
          (pss_one (ps_if (pt_not (pt_val (pe_callPG (pr_law_one_right T) hr calm (pa_cons (pv 1) (pa_cons (pv 3) (pa_cons (pv 4) (pa_cons (pv 2) pa_nil))))))) (pss_one (ps_ret pe_bl)) pss_nil)))))
      (pss_cons (ps_set (i := 5) scRight.nd rfl (Or.inr rfl) (pe_op op_add pe_int (pe_callP (pr_law_draw T) (hr.mono (by decide)) (pa_cons (pv 0) (pa_cons pe_int pa_nil)))))
      (pss_cons (ps_set (i := 3) scRight.nd rfl (Or.inl rfl) (pe_tup (pa_cons (pe_op op_add pe_int (pe_callP (pr_law_draw T) (hr.mono (by decide)) (pa_cons (pv 0) (pa_cons (pv 5) pa_nil)))) (pa_cons (pe_op op_add pe_int (pe_callP (pr_law_draw T) (hr.mono (by decide)) (pa_cons (pv 0) (pa_cons (pv 5) pa_nil)))) pa_nil))))
      (pss_cons (ps_set (i := 4) scRight.nd rfl (Or.inl rfl) (pe_callP (pr_law_draw T) (hr.mono (by decide)) (pa_cons (pv 0) (pa_cons (pe_op op_add (pe_callB (call_min2 rfl) rfl T.min boot_min (pa_cons (pe_ix ix_tup (pv 3) pe_int (fun _ _ => rfl)) (pa_cons (pe_op op_add (pe_op op_sub (pv 5) (pe_ix ix_tup (pv 3) pe_int (fun _ _ => rfl))) pe_int) pa_nil))) pe_int) pa_nil))))
      (pss_one (ps_ret (pe_callPG (pr_law_one_right T) hr calm (pa_cons (pv 5) (pa_cons (pv 3) (pa_cons (pv 4) (pa_cons (pe_lc (own := [("_law_turn", 6)]) (g := gName 6) (tt := tYes) rfl scRight.nd (pi_range1 rfl T.range (pa_cons pe_int pa_nil)) (blkOk_by (N := nRight) (sc := defScope s_law_right) (by decide +kernel))
          (fun _ _ _ _ _ => pg_name (i := 6) scRight.nd rfl (Or.inl rfl)) (fun _ _ _ _ _ => pts_nil) (fun _ _ _ _ _ => pe_tupleK (K := K) rfl rfl T.tuple (pe_callP (pr_law_mixed T) (hr.mono (by decide)) (pa_cons (pv 0) (pa_cons (pe_listRg rfl rfl T.list (prg_2 rfl T.range pe_int (pe_op op_add (pv 5) pe_int))) pa_nil))))) pa_nil)))))))))))), ?_⟩
    refine ⟨_, rfl, p, 5, rfl, po, by decide, by decide, fun H1 d k1 po1 d0 d1 => ?_⟩
    refine ⟨1, d, rfl, rfl, ?_⟩
    -- the orders
    refine ⟨fun σ H2 => ∃ (o : Addr) (rs : List Addr), σ = [some (.ref p), some (.int (1 + d)), some (.ref o), none, none, none, none] ∧ PotOk H2 p ∧ o ≠ p ∧ H2 o = some (.lst (rs.map V.ref)) ∧ Ords H2 rs (1 + d).toNat, ?_, ?_⟩
    · refine ⟨_, rfl, 1 + d, 4, rfl, rfl, _, rfl, ite2 (fun e => ?_) (fun e => ?_)⟩
      · have e := of_decide_eq_true e
        refine ⟨_, rfl, 1 + d, 1, rfl, rfl, 1, 1 + d + 1, rfl, rfl, RgOk.of_le (by omega) (by omega) (by omega) (by omega), fun l nl => ?_⟩
        have dl : (upd H1 l (.lst (rgV 1 (1 + d + 1)))) l = some (.lst ((LbM.rg 1 (1 + d).toNat).map V.int)) := by
          rw [upd_same, rgV_rg, show (1 + d + 1 - 1).toNat = (1 + d).toNat by congr 1; omega]
        refine ⟨l, _, rfl, dl, rg_nodup _ _, by rw [LbM.rg_len]; omega, by decide, fun H2 o rs s2 ho hp hn => ?_⟩
        have po2 : PotOk H2 p := po1.same (Same.trans (same_upd nl) s2)
        refine ⟨o, rs, rfl, po2, ?_, ho, hp⟩
        rintro rfl
        obtain ⟨x, y, hp2, _⟩ := po2
        rw [ho] at hp2
        have hp3 : rs.map V.ref = [V.int x, V.int y] := by
          injection hp2 with z
          injection z
        cases rs with
        | nil => cases hp3
        | cons r rs =>
          rw [List.map_cons] at hp3
          injection hp3 with z1 _
          cases z1
      · refine ⟨7, rfl, by decide, by decide, fun D nD => ?_⟩
        have Dp : D ≠ p := po1.ne nD
        refine lc_range (lo := 0) (n := (7 : Int).toNat) (fun i H2 => ∃ rs : List Addr, PotOk H2 p ∧ H2 D = some (.lst (rs.map V.ref)) ∧ Ords H2 rs (1 + d).toNat ∧ rs.length = i) ⟨[], po1.same (same_upd nD), upd_same, fun r hr => (nomatch hr), rfl⟩ ?_ ?_
        · rintro i H2 hi ⟨rs, po2, dD, os, lr⟩
          refine ⟨rfl, ?_⟩
          refine ⟨_, rfl, _, rfl, p, 1 + d, rfl, po2, by omega, by omega, fun H3 t ms k3 po3 tt oo => ?_⟩
          have dD3 := k3 _ _ Dp dD
          refine ⟨_, dD3, ?_, rs ++ [t], po3.upd Dp, ?_, ?_, ?_⟩
          · rw [List.length_map]; exact small1000 (by have : i < 7 := hi; omega)
          · rw [upd_same, List.map_append]; rfl
          · exact (os.kept po2 k3).snoc dD3 tt oo
          · rw [List.length_append, lr]; rfl
        · rintro H2 ⟨rs, po2, dD, os, lr⟩
          exact ⟨D, rs, rfl, po2, Dp, dD, os⟩
    · rintro σ H2 ⟨o, rs, rfl, po2, op, ho, os⟩
      -- each corner, each number
      refine ⟨_, rfl, 1 + d, rfl, by omega, by omega, fun H3 cl cs s3 dc C3 lc => ?_⟩
      refine ⟨cl, rfl, ⟨_, sq_lst dc⟩, for_list (K := K) (a := cl) (xs := cs.map V.ref) (fun i σ H4 => ∃ v w : Option V, σ = [some (.ref p), some (.int (1 + d)), some (.ref o), v, w, none, none] ∧ Same H3 H4) ⟨none, none, rfl, Same.refl _⟩ (fun i σ H4 _ h => ?_) ?_ ?_⟩
      · obtain ⟨_, _, _, s4⟩ := h
        exact sq_lst (s4 _ _ dc)
      · rintro i x σ H4 hi ⟨v, w', rfl, s4⟩
        obtain ⟨c, gc, rfl⟩ := map_at hi
        obtain ⟨m, k, tc, m1, mn, k1', kn⟩ := C3.all c (List.mem_of_getElem? gc)
        have tc4 : Tu H4 c [m, k] := s4 _ _ tc
        refine ⟨_, rfl, c, _, 0, .int m, rfl, rfl, tc4.sq, at0, _, rfl, _, rfl, c, _, 1, .int k, rfl, rfl, tc4.sq, at1, 1 + d, k, rfl, rfl, 1 + d - k, 1, rfl, rfl, m, 1 + d - k + 1, rfl, _, 1, rfl, rfl, ?_⟩
        rw [min_py]
        refine ⟨_, rfl, by omega, by omega, ?_⟩
        refine for_range (lo := 0) (n := (min m (1 + d - k + 1) + 1).toNat) (fun j σ H5 => ∃ w : Option V, σ = [some (.ref p), some (.int (1 + d)), some (.ref o), some (.ref c), w, none, none] ∧ Same H3 H5) ⟨w', rfl, s4⟩ ?_ ?_
        · rintro j σ H5 hj ⟨w2, rfl, s5⟩
          refine ⟨_, rfl, _, rfl, _, rfl, _, rfl, c, o, 1 + d, m, k, _, rs, rfl, s5 _ _ tc, ⟨by omega, by omega, m1, mn, k1', kn, by omega, by omega, by omega⟩, s5 _ _ (s3 _ _ ho), ?_, fun H6 s6 => ⟨true, rfl, iteF ⟨_, rfl, Same.trans s5 s6⟩⟩⟩
          exact os.kept po2 (Kept.of (Same.trans s3 s5))
        · rintro σ H5 ⟨w2, rfl, s5⟩
          exact ⟨_, _, rfl, s5⟩
      · rintro σ H4 ⟨v, w', rfl, s4⟩
        have po4 : PotOk H4 p := po2.same (Same.trans s3 s4)
        -- a drawn one
        refine ⟨_, rfl, p, 4, rfl, po4, by decide, by decide, fun H5 d5 k5 po5 d50 d51 => ⟨6, d5, rfl, rfl, ?_⟩⟩
        refine ⟨_, rfl, _, rfl, p, 6 + d5, rfl, po5, by omega, by omega, fun H6 d6 k6 po6 d60 d61 => ⟨1, d6, rfl, rfl, ?_⟩⟩
        refine ⟨_, rfl, _, rfl, p, 6 + d5, rfl, po6, by omega, by omega, fun H7 d7 k7 po7 d70 d71 => ⟨1, d7, rfl, rfl, ?_⟩⟩
        refine ⟨(by show 2 ≤ sizeLine; decide), fun c nc => ?_⟩
        have tc : Tu (upd H7 c (.tup [.int (1 + d6), .int (1 + d7)])) c [1 + d6, 1 + d7] := upd_same
        have po8 : PotOk (upd H7 c (.tup [.int (1 + d6), .int (1 + d7)])) p := po7.same (same_upd nc)
        refine ⟨_, rfl, _, rfl, c, _, 0, .int (1 + d6), rfl, rfl, tc.sq, at0, _, rfl, _, rfl, c, _, 1, .int (1 + d7), rfl, rfl, tc.sq, at1, 6 + d5, 1 + d7, rfl, rfl, _, 1, rfl, rfl, 1 + d6, 6 + d5 - (1 + d7) + 1, rfl, _, 1, rfl, rfl, ?_⟩
        rw [min_py]
        refine ⟨p, _, rfl, po8, by omega, by omega, fun H9 d9 k9 po9 d90 d91 => ?_⟩
        have tc9 : Tu H9 c [1 + d6, 1 + d7] := k9 _ _ (po8.neT tc) tc
        have cp : c ≠ p := po9.neT tc9
        -- its orders
        refine ⟨_, rfl, _, rfl, _, rfl, 6, rfl, by decide, by decide, fun D nD => ?_⟩
        have Dp : D ≠ p := po9.ne nD
        have cD : c ≠ D := ne_of_none tc9 nD
        refine lc_range (lo := 0) (n := (6 : Int).toNat) (fun i H2 => ∃ rs : List Addr, PotOk H2 p ∧ H2 D = some (.lst (rs.map V.ref)) ∧ Tu H2 c [1 + d6, 1 + d7] ∧ Ords H2 rs (6 + d5).toNat ∧ rs.length = i) ⟨[], po9.same (same_upd nD), upd_same, same_upd nD _ _ tc9, fun r hr => (nomatch hr), rfl⟩ ?_ ?_
        · rintro i H2 hi ⟨rs, po2, dD, tc2, os, lr⟩
          refine ⟨rfl, ?_⟩
          refine ⟨_, rfl, _, rfl, 6 + d5, 1, rfl, rfl, 1, 6 + d5 + 1, rfl, rfl, RgOk.of_le (by omega) (by omega) (by omega) (by omega), fun l nl => ?_⟩
          have dl : (upd H2 l (.lst (rgV 1 (6 + d5 + 1)))) l = some (.lst ((LbM.rg 1 (6 + d5).toNat).map V.int)) := by
            rw [upd_same, rgV_rg, show (6 + d5 + 1 - 1).toNat = (6 + d5).toNat by congr 1; omega]
          refine ⟨p, l, _, rfl, po2.same (same_upd nl), dl, po2.ne nl, by rw [LbM.rg_len]; omega, fun H3 r ms k3 po3 rp dr pm => ?_⟩
          refine .inl ⟨r, _, rfl, sq_lst dr, fun t nt => ?_⟩
          have kk : Kept p H2 (upd H3 t (.tup (ms.map V.int))) := ((Kept.of (same_upd nl)).trans k3).trans (Kept.of (same_upd nt))
          have dD3 := kk _ _ Dp dD
          have po4 : PotOk (upd H3 t (.tup (ms.map V.int))) p := po3.same (same_upd nt)
          refine ⟨_, dD3, ?_, rs ++ [t], po4.upd Dp, ?_, ?_, ?_, ?_⟩
          · rw [List.length_map]; exact small1000 (by have : i < 6 := hi; omega)
          · rw [upd_same, List.map_append]; rfl
          · show upd _ D _ c = _
            rw [upd_ne cD]
            exact kk _ _ cp tc2
          · exact (os.kept po2 kk).snoc dD3 upd_same pm
          · rw [List.length_append, lr]; rfl
        · rintro H2 ⟨rs, po2, dD, tc2, os, lr⟩
          exact ⟨c, D, 6 + d5, 1 + d6, 1 + d7, d9, rs, rfl, tc2, ⟨by omega, by omega, by omega, by omega, by omega, by omega, by omega, by omega, by omega⟩, dD, os, fun H3 _ => q H3⟩
/-! ### law -/
def spLaw : Sp := fun vs H Q _ => ∃ (a : Addr) (ns : List Int), vs = [.ref a] ∧ SqL K H a (ns.map V.int) ∧ ∀ H', Q (.bl true) H'
theorem scLaw : FnScope ["_law_script"] ["_law_script"] (defScope s_law) := ⟨rfl, rfl, rfl, by decide +kernel, rfl, by decide +kernel, by decide +kernel⟩
theorem g_law (T : Txt K mg) {f : Addr} {fd : FuncData} (F : FnP K "law" s_law f fd) : FnG P w K mg base 10 f fd ["_law_script"] (spLaw (K := K)) := by
  refine fnG F scLaw (fun vs H Q h => ?_) (fun cdv A outer s H vs Q hr calm h => ?_)
  · obtain ⟨_, _, rfl, _⟩ := h
    rfl
  · obtain ⟨a, ns, rfl, ha, q⟩ := h
    refine ⟨_, PSs.nox (pss_one (ps_ret (pe_callPG (pr_law_right T) hr calm (pa_cons (pe_callP (pr_law_pot T) (hr.mono (by decide)) (pa_cons (pv 0) (pa_cons pe_int pa_nil))) pa_nil)))), ?_⟩
    exact ⟨_, rfl, a, ns, rfl, ha, fun H1 p s1 po => ⟨p, rfl, po, q⟩⟩
end
end Lb

set_option maxHeartbeats 0
namespace Lb
open PySem PySem.Spec PyProof.Rows L2
def d_is_integer : He.DefD := ⟨("is_integer", none), "is_integer", "is_integer", defArgs s_is_integer, defBody s_is_integer, defScope s_is_integer, [], []⟩
def d_is_count : He.DefD := ⟨("is_count", none), "is_count", "is_count", defArgs s_is_count, defBody s_is_count, defScope s_is_count, [], []⟩
def d_is_list : He.DefD := ⟨("is_list", none), "is_list", "is_list", defArgs s_is_list, defBody s_is_list, defScope s_is_list, [], []⟩
def d_is_order : He.DefD := ⟨("is_order", none), "is_order", "is_order", defArgs s_is_order, defBody s_is_order, defScope s_is_order, [], []⟩
def d_want_many : He.DefD := ⟨("want_many", none), "want_many", "want_many", defArgs s_want_many, defBody s_want_many, defScope s_want_many, [], []⟩
def d_want_order : He.DefD := ⟨("want_order", none), "want_order", "want_order", defArgs s_want_order, defBody s_want_order, defScope s_want_order, [], []⟩
def d_want_alike : He.DefD := ⟨("want_alike", none), "want_alike", "want_alike", defArgs s_want_alike, defBody s_want_alike, defScope s_want_alike, [], []⟩
def d_is_lower : He.DefD := ⟨("is_lower", none), "is_lower", "is_lower", defArgs s_is_lower, defBody s_is_lower, defScope s_is_lower, [], []⟩
def d_want_two : He.DefD := ⟨("want_two", none), "want_two", "want_two", defArgs s_want_two, defBody s_want_two, defScope s_want_two, [], []⟩
def d_is_below : He.DefD := ⟨("is_below", none), "is_below", "is_below", defArgs s_is_below, defBody s_is_below, defScope s_is_below, [], []⟩
def d_is_corner : He.DefD := ⟨("is_corner", none), "is_corner", "is_corner", defArgs s_is_corner, defBody s_is_corner, defScope s_is_corner, [], []⟩
def d_want_corner : He.DefD := ⟨("want_corner", none), "want_corner", "want_corner", defArgs s_want_corner, defBody s_want_corner, defScope s_want_corner, [], []⟩
def d_count_of : He.DefD := ⟨("count_of", none), "count_of", "count_of", defArgs s_count_of, defBody s_count_of, defScope s_count_of, [], []⟩
def d_counted : He.DefD := ⟨("counted", none), "counted", "counted", defArgs s_counted, defBody s_counted, defScope s_counted, [], []⟩
def d_least_count : He.DefD := ⟨("least_count", none), "least_count", "least_count", defArgs s_least_count, defBody s_least_count, defScope s_least_count, [], []⟩
def d_most_count : He.DefD := ⟨("most_count", none), "most_count", "most_count", defArgs s_most_count, defBody s_most_count, defScope s_most_count, [], []⟩
def d_least_of : He.DefD := ⟨("least_of", none), "least_of", "least_of", defArgs s_least_of, defBody s_least_of, defScope s_least_of, [], []⟩
def d_least_with : He.DefD := ⟨("least_with", none), "least_with", "least_with", defArgs s_least_with, defBody s_least_with, defScope s_least_with, [], []⟩
def d_law_pot : He.DefD := ⟨("_law_pot", none), "_law_pot", "_law_pot", defArgs s_law_pot, defBody s_law_pot, defScope s_law_pot, [], []⟩
def d_law_draw : He.DefD := ⟨("_law_draw", none), "_law_draw", "_law_draw", defArgs s_law_draw, defBody s_law_draw, defScope s_law_draw, [], []⟩
def d_law_pick : He.DefD := ⟨("_law_pick", none), "_law_pick", "_law_pick", defArgs s_law_pick, defBody s_law_pick, defScope s_law_pick, [], []⟩
def d_law_mixed : He.DefD := ⟨("_law_mixed", none), "_law_mixed", "_law_mixed", defArgs s_law_mixed, defBody s_law_mixed, defScope s_law_mixed, [], []⟩
def d_law_order : He.DefD := ⟨("_law_order", none), "_law_order", "_law_order", defArgs s_law_order, defBody s_law_order, defScope s_law_order, [], []⟩
def d_law_all : He.DefD := ⟨("_law_all", none), "_law_all", "_law_all", defArgs s_law_all, defBody s_law_all, defScope s_law_all, [], []⟩
def d_law_count : He.DefD := ⟨("_law_count", none), "_law_count", "_law_count", defArgs s_law_count, defBody s_law_count, defScope s_law_count, [], []⟩
def d_law_corners : He.DefD := ⟨("_law_corners", none), "_law_corners", "_law_corners", defArgs s_law_corners, defBody s_law_corners, defScope s_law_corners, [], []⟩
def d_law_lower : He.DefD := ⟨("_law_lower", none), "_law_lower", "_law_lower", defArgs s_law_lower, defBody s_law_lower, defScope s_law_lower, [], []⟩
def d_law_least : He.DefD := ⟨("_law_least", none), "_law_least", "_law_least", defArgs s_law_least, defBody s_law_least, defScope s_law_least, [], []⟩
def d_law_one_right : He.DefD := ⟨("_law_one_right", none), "_law_one_right", "_law_one_right", defArgs s_law_one_right, defBody s_law_one_right, defScope s_law_one_right, [], []⟩
def d_law_right : He.DefD := ⟨("_law_right", none), "_law_right", "_law_right", defArgs s_law_right, defBody s_law_right, defScope s_law_right, [], []⟩
def d_law : He.DefD := ⟨("law", none), "law", "law", defArgs s_law, defBody s_law, defScope s_law, [], []⟩
def fn : List He.DefD := ([d_is_integer, d_is_count, d_is_list, d_is_order, d_want_many, d_want_order, d_want_alike, d_is_lower, d_want_two, d_is_below, d_is_corner, d_want_corner, d_count_of, d_counted, d_least_count, d_most_count] : List He.DefD) ++ ([d_least_of, d_least_with, d_law_pot, d_law_draw, d_law_pick, d_law_mixed, d_law_order, d_law_all, d_law_count, d_law_corners, d_law_lower, d_law_least, d_law_one_right, d_law_right, d_law] : List He.DefD)
def fa : List He.Fa := ([.glo "is_integer", .glo "is_count", .glo "is_list", .glo "is_order", .glo "want_many", .glo "want_order", .glo "want_alike", .glo "is_lower", .glo "want_two", .glo "is_below", .glo "is_corner", .glo "want_corner", .glo "count_of", .glo "counted", .glo "least_count", .glo "most_count"] : List He.Fa) ++ ([.glo "least_of", .glo "least_with", .glo "_law_pot", .glo "_law_draw", .glo "_law_pick", .glo "_law_mixed", .glo "_law_order", .glo "_law_all", .glo "_law_count", .glo "_law_corners", .glo "_law_lower", .glo "_law_least", .glo "_law_one_right", .glo "_law_right", .glo "law", .int "MOST_THINGS_basics" 9] : List He.Fa) ++ ([.int "MOST_THINGS_corners" 9, .free "isinstance", .free "int", .free "bool", .free "list", .free "tuple", .free "len", .free "all", .free "any", .free "sorted", .free "range", .free "zip", .free "max", .free "min", .free "abs", .free "divmod"] : List He.Fa) ++ ([.free "sum", .free "repr"] : List He.Fa)
abbrev R : PySem.W.OpenRow := PySem.W.OpenLaw.row PySem.Challenge.rw_lowerboards_k27_whole_least_orders_of_co
def hk : PySem.W.Hook := He.hookD 4 fa fn
def ob (s : PySem.W.SharedT) : He.AlD := He.obsDG 4 fa fn (HandSHeadRun.getT s)
theorem ob_eq (s : PySem.W.SharedT) : ob s = hk.obs s.abs := He.obsDG_eq (HandSHeadRun.getT_eq s)
def loose : List PySem.Str := (["ShelfError", "StateError", "InvalidCorner", "InvalidMany", "InvalidOrder", "UnlikeSizes", "MOST_THINGS_basics", "MOST_THINGS_corners", "is_integer", "is_count"] : List PySem.Str) ++ (["is_list", "is_order", "want_many", "want_order", "want_alike", "is_lower", "want_two", "is_below", "is_corner", "want_corner"] : List PySem.Str) ++ (["count_of", "counted", "least_count", "most_count", "least_of", "least_with", "_law_pot", "_law_draw", "_law_pick", "_law_mixed"] : List PySem.Str) ++ (["_law_order", "_law_all", "_law_count", "_law_corners", "_law_lower", "_law_least", "_law_one_right", "_law_right"] : List PySem.Str)
theorem run (w : World) : HandSHeadRun.RunEq R (PySem.W.view R.prog [43]) hk ob 20000 loose w := by
  intro os
  kernel_rfl
end Lb

set_option maxHeartbeats 0
/-! the end: the facts of the head, the law -/
namespace Lb
open PySem PySem.Spec PyProof.Rows L2
theorem txt {K : PySem.W.Frag} {h : Heap} {mg : Str → Option Value} (X : K.In h) (G : h.Ns mainGlobals mg) (c : He.SaysD fa fn K) : Txt K mg := by
  have h0 : Has K mg "is_integer" s_is_integer := by
    obtain ⟨fd, F⟩ := c.def_ 0 (d := d_is_integer) rfl
    exact ⟨_, fd, F, He.glo_ok X G (c.fact 0 (f := .glo "is_integer") rfl)⟩
  have h1 : Has K mg "is_count" s_is_count := by
    obtain ⟨fd, F⟩ := c.def_ 1 (d := d_is_count) rfl
    exact ⟨_, fd, F, He.glo_ok X G (c.fact 1 (f := .glo "is_count") rfl)⟩
  have h2 : Has K mg "is_list" s_is_list := by
    obtain ⟨fd, F⟩ := c.def_ 2 (d := d_is_list) rfl
    exact ⟨_, fd, F, He.glo_ok X G (c.fact 2 (f := .glo "is_list") rfl)⟩
  have h3 : Has K mg "is_order" s_is_order := by
    obtain ⟨fd, F⟩ := c.def_ 3 (d := d_is_order) rfl
    exact ⟨_, fd, F, He.glo_ok X G (c.fact 3 (f := .glo "is_order") rfl)⟩
  have h4 : Has K mg "want_many" s_want_many := by
    obtain ⟨fd, F⟩ := c.def_ 4 (d := d_want_many) rfl
    exact ⟨_, fd, F, He.glo_ok X G (c.fact 4 (f := .glo "want_many") rfl)⟩
  have h5 : Has K mg "want_order" s_want_order := by
    obtain ⟨fd, F⟩ := c.def_ 5 (d := d_want_order) rfl
    exact ⟨_, fd, F, He.glo_ok X G (c.fact 5 (f := .glo "want_order") rfl)⟩
  have h6 : Has K mg "want_alike" s_want_alike := by
    obtain ⟨fd, F⟩ := c.def_ 6 (d := d_want_alike) rfl
    exact ⟨_, fd, F, He.glo_ok X G (c.fact 6 (f := .glo "want_alike") rfl)⟩
  have h7 : Has K mg "is_lower" s_is_lower := by
    obtain ⟨fd, F⟩ := c.def_ 7 (d := d_is_lower) rfl
    exact ⟨_, fd, F, He.glo_ok X G (c.fact 7 (f := .glo "is_lower") rfl)⟩
  have h8 : Has K mg "want_two" s_want_two := by
    obtain ⟨fd, F⟩ := c.def_ 8 (d := d_want_two) rfl
    exact ⟨_, fd, F, He.glo_ok X G (c.fact 8 (f := .glo "want_two") rfl)⟩
  have h9 : Has K mg "is_below" s_is_below := by
    obtain ⟨fd, F⟩ := c.def_ 9 (d := d_is_below) rfl
    exact ⟨_, fd, F, He.glo_ok X G (c.fact 9 (f := .glo "is_below") rfl)⟩
  have h10 : Has K mg "is_corner" s_is_corner := by
    obtain ⟨fd, F⟩ := c.def_ 10 (d := d_is_corner) rfl
    exact ⟨_, fd, F, He.glo_ok X G (c.fact 10 (f := .glo "is_corner") rfl)⟩
  have h11 : Has K mg "want_corner" s_want_corner := by
    obtain ⟨fd, F⟩ := c.def_ 11 (d := d_want_corner) rfl
    exact ⟨_, fd, F, He.glo_ok X G (c.fact 11 (f := .glo "want_corner") rfl)⟩
  have h12 : Has K mg "count_of" s_count_of := by
    obtain ⟨fd, F⟩ := c.def_ 12 (d := d_count_of) rfl
    exact ⟨_, fd, F, He.glo_ok X G (c.fact 12 (f := .glo "count_of") rfl)⟩
  have h13 : Has K mg "counted" s_counted := by
    obtain ⟨fd, F⟩ := c.def_ 13 (d := d_counted) rfl
    exact ⟨_, fd, F, He.glo_ok X G (c.fact 13 (f := .glo "counted") rfl)⟩
  have h14 : Has K mg "least_count" s_least_count := by
    obtain ⟨fd, F⟩ := c.def_ 14 (d := d_least_count) rfl
    exact ⟨_, fd, F, He.glo_ok X G (c.fact 14 (f := .glo "least_count") rfl)⟩
  have h15 : Has K mg "most_count" s_most_count := by
    obtain ⟨fd, F⟩ := c.def_ 15 (d := d_most_count) rfl
    exact ⟨_, fd, F, He.glo_ok X G (c.fact 15 (f := .glo "most_count") rfl)⟩
  have h16 : Has K mg "least_of" s_least_of := by
    obtain ⟨fd, F⟩ := c.def_ 16 (d := d_least_of) rfl
    exact ⟨_, fd, F, He.glo_ok X G (c.fact 16 (f := .glo "least_of") rfl)⟩
  have h17 : Has K mg "least_with" s_least_with := by
    obtain ⟨fd, F⟩ := c.def_ 17 (d := d_least_with) rfl
    exact ⟨_, fd, F, He.glo_ok X G (c.fact 17 (f := .glo "least_with") rfl)⟩
  have h18 : Has K mg "_law_pot" s_law_pot := by
    obtain ⟨fd, F⟩ := c.def_ 18 (d := d_law_pot) rfl
    exact ⟨_, fd, F, He.glo_ok X G (c.fact 18 (f := .glo "_law_pot") rfl)⟩
  have h19 : Has K mg "_law_draw" s_law_draw := by
    obtain ⟨fd, F⟩ := c.def_ 19 (d := d_law_draw) rfl
    exact ⟨_, fd, F, He.glo_ok X G (c.fact 19 (f := .glo "_law_draw") rfl)⟩
  have h20 : Has K mg "_law_pick" s_law_pick := by
    obtain ⟨fd, F⟩ := c.def_ 20 (d := d_law_pick) rfl
    exact ⟨_, fd, F, He.glo_ok X G (c.fact 20 (f := .glo "_law_pick") rfl)⟩
  have h21 : Has K mg "_law_mixed" s_law_mixed := by
    obtain ⟨fd, F⟩ := c.def_ 21 (d := d_law_mixed) rfl
    exact ⟨_, fd, F, He.glo_ok X G (c.fact 21 (f := .glo "_law_mixed") rfl)⟩
  have h22 : Has K mg "_law_order" s_law_order := by
    obtain ⟨fd, F⟩ := c.def_ 22 (d := d_law_order) rfl
    exact ⟨_, fd, F, He.glo_ok X G (c.fact 22 (f := .glo "_law_order") rfl)⟩
  have h23 : Has K mg "_law_all" s_law_all := by
    obtain ⟨fd, F⟩ := c.def_ 23 (d := d_law_all) rfl
    exact ⟨_, fd, F, He.glo_ok X G (c.fact 23 (f := .glo "_law_all") rfl)⟩
  have h24 : Has K mg "_law_count" s_law_count := by
    obtain ⟨fd, F⟩ := c.def_ 24 (d := d_law_count) rfl
    exact ⟨_, fd, F, He.glo_ok X G (c.fact 24 (f := .glo "_law_count") rfl)⟩
  have h25 : Has K mg "_law_corners" s_law_corners := by
    obtain ⟨fd, F⟩ := c.def_ 25 (d := d_law_corners) rfl
    exact ⟨_, fd, F, He.glo_ok X G (c.fact 25 (f := .glo "_law_corners") rfl)⟩
  have h26 : Has K mg "_law_lower" s_law_lower := by
    obtain ⟨fd, F⟩ := c.def_ 26 (d := d_law_lower) rfl
    exact ⟨_, fd, F, He.glo_ok X G (c.fact 26 (f := .glo "_law_lower") rfl)⟩
  have h27 : Has K mg "_law_least" s_law_least := by
    obtain ⟨fd, F⟩ := c.def_ 27 (d := d_law_least) rfl
    exact ⟨_, fd, F, He.glo_ok X G (c.fact 27 (f := .glo "_law_least") rfl)⟩
  have h28 : Has K mg "_law_one_right" s_law_one_right := by
    obtain ⟨fd, F⟩ := c.def_ 28 (d := d_law_one_right) rfl
    exact ⟨_, fd, F, He.glo_ok X G (c.fact 28 (f := .glo "_law_one_right") rfl)⟩
  have h29 : Has K mg "_law_right" s_law_right := by
    obtain ⟨fd, F⟩ := c.def_ 29 (d := d_law_right) rfl
    exact ⟨_, fd, F, He.glo_ok X G (c.fact 29 (f := .glo "_law_right") rfl)⟩
  have h30 : Has K mg "law" s_law := by
    obtain ⟨fd, F⟩ := c.def_ 30 (d := d_law) rfl
    exact ⟨_, fd, F, He.glo_ok X G (c.fact 30 (f := .glo "law") rfl)⟩
  exact
    { is_integer := h0
      is_count := h1
      is_list := h2
      is_order := h3
      want_many := h4
      want_order := h5
      want_alike := h6
      is_lower := h7
      want_two := h8
      is_below := h9
      is_corner := h10
      want_corner := h11
      count_of := h12
      counted := h13
      least_count := h14
      most_count := h15
      least_of := h16
      least_with := h17
      law_pot := h18
      law_draw := h19
      law_pick := h20
      law_mixed := h21
      law_order := h22
      law_all := h23
      law_count := h24
      law_corners := h25
      law_lower := h26
      law_least := h27
      law_one_right := h28
      law_right := h29
      law := h30
      most1 := He.int_ok X G (c.fact 31 (f := .int "MOST_THINGS_basics" 9) rfl)
      most2 := He.int_ok X G (c.fact 32 (f := .int "MOST_THINGS_corners" 9) rfl)
      isinstance := He.free_ok X G (c.fact 33 (f := .free "isinstance") rfl)
      int := He.free_ok X G (c.fact 34 (f := .free "int") rfl)
      bool := He.free_ok X G (c.fact 35 (f := .free "bool") rfl)
      list := He.free_ok X G (c.fact 36 (f := .free "list") rfl)
      tuple := He.free_ok X G (c.fact 37 (f := .free "tuple") rfl)
      len := He.free_ok X G (c.fact 38 (f := .free "len") rfl)
      all := He.free_ok X G (c.fact 39 (f := .free "all") rfl)
      any := He.free_ok X G (c.fact 40 (f := .free "any") rfl)
      sorted := He.free_ok X G (c.fact 41 (f := .free "sorted") rfl)
      range := He.free_ok X G (c.fact 42 (f := .free "range") rfl)
      zip := He.free_ok X G (c.fact 43 (f := .free "zip") rfl)
      max := He.free_ok X G (c.fact 44 (f := .free "max") rfl)
      min := He.free_ok X G (c.fact 45 (f := .free "min") rfl)
      abs := He.free_ok X G (c.fact 46 (f := .free "abs") rfl)
      divmod := He.free_ok X G (c.fact 47 (f := .free "divmod") rfl)
      sum := He.free_ok X G (c.fact 48 (f := .free "sum") rfl)
      repr := He.free_ok X G (c.fact 49 (f := .free "repr") rfl) }
theorem facts {P : Program} {w : World} {K : PySem.W.Frag} {h : Heap} {mg : Str → Option Value} {f : Addr} (X : K.In h) (G : h.Ns mainGlobals mg) (hfa : mg ("law" : Str) = some (.ref f)) (c : He.SaysD fa fn K) :
    ∃ fd : FuncData, (∀ (s : Shared) (v : Value), BindsTo s fd ⟨[v], []⟩ [("_law_script", v)]) ∧ ∀ base : Heap, K.In base → base.Ns mainGlobals mg → FnG P w K mg base 10 f fd ["_law_script"] (spLaw (K := K)) := by
  have T := txt X G c
  obtain ⟨f', fd, F, hm⟩ := T.law
  have e := hfa.symm.trans hm
  cases e
  have b := FunD.bindsA (ps := ["_law_script"]) F fun _ _ _ _ _ _ us hl => match us, hl with | [_], _ => rfl
  exact ⟨fd, fun s v => b s [v] rfl, fun base _ _ => g_law T F⟩
end Lb
open PySem PySem.W PySem.Calls PyProof.Rows
set_option maxRecDepth 100000 in
set_option maxHeartbeats 0 in
theorem PySem.Challenge.cw_lowerboards_k27_whole_least_orders_of_co_holds : PySem.Challenge.rw_lowerboards_k27_whole_least_orders_of_co.Holds := by
  w_on; o_law
  refine HandSHeadRun.head_any (r := OpenLaw.row PySem.Challenge.rw_lowerboards_k27_whole_least_orders_of_co) (q := view (OpenLaw.row PySem.Challenge.rw_lowerboards_k27_whole_least_orders_of_co).prog [43]) (H := Lb.hk) (ob := Lb.ob) (M := 20000) (loose := Lb.loose) (d := HandSHeadRun.topDef (OpenLaw.row PySem.Challenge.rw_lowerboards_k27_whole_least_orders_of_co).prog 43) (kwd := []) Lb.ob_eq
    (by kernel_rfl) (fun s => by kernel_rfl) Lb.run (by kernel_rfl) (by kernel_rfl) (by kernel_rfl) (by rfl) (by first | assumption | decide +kernel) (by decide +kernel) ⟨rfl, rfl, rfl, rfl, rfl, by decide +kernel⟩ ?hw ?hc
  case hw => w_witness2
  case hc =>
    refine Lb.walkG (l := PySem.Challenge.rw_lowerboards_k27_whole_least_orders_of_co) (n := 63) (k := 10) (x := "_law_script") rfl (by decide) (by kernel_rfl) ⟨rfl, by decide, by decide⟩ ?F
    intro w mg fa h Y G hmg0
    obtain ⟨K, KX, c⟩ := Y
    have hmg : mg ("law" : PySem.Str) = some (.ref fa) := by
      have e : (HandSHeadRun.topDef (OpenLaw.row PySem.Challenge.rw_lowerboards_k27_whole_least_orders_of_co).prog 43).name = ("law" : PySem.Str) := by kernel_rfl
      rw [← e]
      exact hmg0
    obtain ⟨fd, hb, hF⟩ := Lb.facts (P := (PySem.Challenge.rw_lowerboards_k27_whole_least_orders_of_co).prog) (w := w) KX G hmg c
    exact ⟨K, fd, Lb.spLaw (K := K), KX, hb, fun H a ns hl _ hS => ⟨a, ns, rfl, hS, fun _ => rfl⟩, hF⟩
