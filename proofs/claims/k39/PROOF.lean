import PyProof.Rows.All
import Wide.All
import OpenK.AllK
import Wide.FinOn
import KE.KStateDown
import HandS.ForMost
import HandS.Walk
import KE.GoesEnum
import KE.KeyNested
import HandS.SortInts
import HandS.TupLe
import HandS.DictTup
import KE.SortData
import KE.KSortTupAny
import KE.KDictCopyH
import HandS.SetFor
import HandS.Strs
import HandS.IsInst
import KE.KDictPairs
import KE.KDictKeyed
import HandS.ForExc
import HandS.Style
import HandS.Flow
import HandS.TupAny
import HandS.Deep
import HandS.Conv
import HandS.Defaults
import HandS.WideMore
import PySem.Challenge.RW_cointakes_k39_whole_plans_of_keepers
import HandS.Head0
import HandS.Head1
import HandS.Head2
import HandS.HeadEnd
import HandS.HeadHook1
import HandS.HeadHook2
set_option Elab.async false
set_option linter.all false
set_option maxRecDepth 100000
set_option maxHeartbeats 0
namespace Ck

def insI (x : Int) : List Int → List Int
  | [] => [x]
  | y :: r => if x ≤ y then x :: y :: r else y :: insI x r
def srt : List Int → List Int
  | [] => []
  | x :: r => insI x (srt r)
theorem insI_perm (x : Int) : ∀ l, (insI x l).Perm (x :: l)
  | [] => List.Perm.refl _
  | y :: r => by
    unfold insI
    split
    · exact List.Perm.refl _
    · exact ((insI_perm x r).cons y).trans (List.Perm.swap x y r)
theorem srt_perm : ∀ l, (srt l).Perm l
  | [] => List.Perm.refl _
  | x :: r => (insI_perm x (srt r)).trans ((srt_perm r).cons x)
theorem insI_up (x : Int) : ∀ l, l.Pairwise (· ≤ ·) → (insI x l).Pairwise (· ≤ ·)
  | [], _ => List.pairwise_singleton _ _
  | y :: r, h => by
    unfold insI
    obtain ⟨h1, h2⟩ := List.pairwise_cons.mp h
    split
    · rename_i hxy
      refine List.pairwise_cons.mpr ⟨fun z hz => ?_, h⟩
      rcases List.mem_cons.mp hz with e | hz
      · rw [e]; exact hxy
      · exact Int.le_trans hxy (h1 z hz)
    · rename_i hxy
      refine List.pairwise_cons.mpr ⟨fun z hz => ?_, insI_up x r h2⟩
      rcases List.mem_cons.mp ((insI_perm x r).mem_iff.mp hz) with e | hz
      · rw [e]; omega
      · exact h1 z hz
theorem srt_up : ∀ l, (srt l).Pairwise (· ≤ ·)
  | [] => List.Pairwise.nil
  | x :: r => insI_up x _ (srt_up r)
theorem up_uniq {α : Type} {R : α → α → Prop} (anti : ∀ x y, R x y → R y x → x = y) : ∀ {l m : List α}, l.Perm m → l.Pairwise R → m.Pairwise R → l = m
  | [], m, p, _, _ => p.symm.eq_nil.symm
  | x :: l, [], p, _, _ => absurd p.length_eq (by simp)
  | x :: l, y :: m, p, hl, hm => by
    obtain ⟨h1, h2⟩ := List.pairwise_cons.mp hl
    obtain ⟨k1, k2⟩ := List.pairwise_cons.mp hm
    have e : x = y := by
      rcases List.mem_cons.mp (p.mem_iff.mp (List.mem_cons_self (a := x) (l := l))) with e | hx
      · exact e
      · rcases List.mem_cons.mp (p.mem_iff.mpr (List.mem_cons_self (a := y) (l := m))) with e | hy
        · exact e.symm
        · exact anti x y (h1 y hy) (k1 x hx)
    subst e
    rw [up_uniq anti (List.Perm.cons_inv p) h2 k2]
theorem srt_uniq {l m : List Int} (p : l.Perm m) (h : l.Pairwise (· ≤ ·)) : l = srt m :=
  up_uniq (fun x y a b => Int.le_antisymm a b) (p.trans (srt_perm m).symm) h (srt_up m)

structure Good (n : Nat) (S : List Int) : Prop where
  up : S.Pairwise (· < ·)
  rng : ∀ x ∈ S, 0 ≤ x ∧ x < n
theorem Good.nil (n : Nat) : Good n [] := ⟨List.Pairwise.nil, fun x h => by cases h⟩
theorem Good.nodup {n : Nat} {S : List Int} (g : Good n S) : S.Nodup := g.up.imp fun h => Int.ne_of_lt h
theorem Good.le {n : Nat} {S : List Int} (g : Good n S) : S.Pairwise (· ≤ ·) := g.up.imp Int.le_of_lt
theorem nd_len {α : Type} [DecidableEq α] : ∀ {l D : List α}, l.Nodup → (∀ x ∈ l, x ∈ D) → l.length ≤ D.length
  | [], _, _, _ => Nat.zero_le _
  | x :: l, D, h, hs => by
    obtain ⟨h1, h2⟩ := List.nodup_cons.mp h
    have hx : x ∈ D := hs x List.mem_cons_self
    have q := nd_len (l := l) (D := D.erase x) h2 fun y hy => (List.mem_erase_of_ne (fun e : y = x => h1 (e ▸ hy))).mpr (hs y (List.mem_cons_of_mem _ hy))
    have z := List.length_erase_of_mem hx
    have p : 0 < D.length := List.length_pos_of_mem hx
    rw [List.length_cons]
    omega
def rngI (n : Nat) : List Int := (List.range n).map fun k : Nat => (k : Int)
theorem rngI_len (n : Nat) : (rngI n).length = n := by simp [rngI]
theorem mem_rngI {n : Nat} {x : Int} : x ∈ rngI n ↔ 0 ≤ x ∧ x < n := by
  unfold rngI
  rw [List.mem_map]
  constructor
  · rintro ⟨k, hk, e⟩
    have := List.mem_range.mp hk
    subst e
    omega
  · rintro ⟨h1, h2⟩
    exact ⟨x.toNat, List.mem_range.mpr (by omega), by omega⟩
theorem Good.len_le {n : Nat} {S : List Int} (g : Good n S) : S.length ≤ n := by
  have q := nd_len g.nodup (D := rngI n) fun x hx => mem_rngI.mpr (g.rng x hx)
  rwa [rngI_len] at q
theorem Good.len_lt {n : Nat} {S : List Int} {k : Int} (g : Good n S) (hk : k ∉ S) (h0 : 0 ≤ k) (h1 : k < n) : S.length < n := by
  have q := nd_len (l := k :: S) (D := rngI n) (List.nodup_cons.mpr ⟨hk, g.nodup⟩) fun x hx => by
    rcases List.mem_cons.mp hx with e | hx
    · rw [e]; exact mem_rngI.mpr ⟨h0, h1⟩
    · exact mem_rngI.mpr (g.rng x hx)
  rw [rngI_len, List.length_cons] at q
  exact q
def more (S : List Int) (k : Int) : List Int := srt (S ++ [k])
theorem mem_more {S : List Int} {k x : Int} : x ∈ more S k ↔ x ∈ S ∨ x = k := by
  unfold more
  rw [(srt_perm _).mem_iff, List.mem_append, List.mem_singleton]
theorem more_len (S : List Int) (k : Int) : (more S k).length = S.length + 1 := by
  unfold more
  rw [(srt_perm _).length_eq, List.length_append, List.length_singleton]
theorem Good.more {n : Nat} {S : List Int} {k : Int} (g : Good n S) (hk : k ∉ S) (h0 : 0 ≤ k) (h1 : k < n) : Good n (more S k) := by
  refine ⟨?_, fun x hx => ?_⟩
  · have nd : (Ck.more S k).Nodup := by
      unfold Ck.more
      rw [(srt_perm _).nodup_iff]
      refine List.nodup_append.mpr ⟨g.nodup, List.nodup_cons.mpr ⟨by simp, List.nodup_nil⟩, fun a ha b hb e => ?_⟩
      rw [List.mem_singleton.mp hb] at e
      exact hk (e ▸ ha)
    have := (List.Pairwise.and (srt_up (S ++ [k])) nd)
    exact this.imp fun ⟨a, b⟩ => by omega
  · rcases mem_more.mp hx with h | e
    · exact g.rng x h
    · rw [e]; exact ⟨h0, h1⟩
theorem up_mem {S T : List Int} (hS : S.Pairwise (· < ·)) (hT : T.Pairwise (· < ·)) (h : ∀ x, x ∈ S ↔ x ∈ T) : S = T := by
  have nS : S.Nodup := hS.imp fun h => Int.ne_of_lt h
  have nT : T.Nodup := hT.imp fun h => Int.ne_of_lt h
  have p : S.Perm T := (List.perm_ext_iff_of_nodup nS nT).mpr h
  exact up_uniq (R := (· ≤ ·)) (fun x y a b => Int.le_antisymm a b) p (hS.imp Int.le_of_lt) (hT.imp Int.le_of_lt)

abbrev Edges := List (Int × Int)
def nb (E : Edges) (k : Int) : List Int := (E.filter fun e => decide (e.1 = k) || decide (e.2 = k)).map fun e => e.1 + e.2 - k
structure WebOk (n : Nat) (E : Edges) : Prop where
  ok : ∀ e ∈ E, 0 ≤ e.1 ∧ e.1 < e.2 ∧ e.2 < n
theorem nb_rng {n : Nat} {E : Edges} (w : WebOk n E) {k x : Int} (h : x ∈ nb E k) : 0 ≤ x ∧ x < n ∧ x ≠ k := by
  unfold nb at h
  obtain ⟨e, he, ex⟩ := List.mem_map.mp h
  obtain ⟨h1, h2⟩ := List.mem_filter.mp he
  have := w.ok e h1
  simp only [Bool.or_eq_true, decide_eq_true_eq] at h2
  omega
theorem nb_cons (e : Int × Int) (E : Edges) (k x : Int) : (nb (e :: E) k).count x = (nb E k).count x + if (e.1 = k ∨ e.2 = k) ∧ e.1 + e.2 - k = x then 1 else 0 := by
  unfold nb
  by_cases h : e.1 = k ∨ e.2 = k
  · have a : (decide (e.1 = k) || decide (e.2 = k)) = true := by simpa using h
    rw [List.filter_cons, if_pos a, List.map_cons, List.count_cons]
    by_cases q : e.1 + e.2 - k = x
    · rw [if_pos (beq_iff_eq.mpr q), if_pos ⟨h, q⟩]
    · rw [if_neg (fun z => q (beq_iff_eq.mp z)), if_neg (fun z => q z.2)]
  · have a : ¬ (decide (e.1 = k) || decide (e.2 = k)) = true := by simpa using h
    rw [List.filter_cons, if_neg a, if_neg (fun z => h z.1)]
    rfl
theorem nb_sym (x k : Int) (hx : x ≠ k) : ∀ E : Edges, (nb E x).count k = (nb E k).count x
  | [] => rfl
  | e :: E => by
    rw [nb_cons, nb_cons, nb_sym x k hx E]
    congr 1
    by_cases h : (e.1 = x ∨ e.2 = x) ∧ e.1 + e.2 - x = k
    · rw [if_pos h, if_pos (by omega)]
    · rw [if_neg h, if_neg (by omega)]
def cnt (E : Edges) (S : List Int) (k : Int) : Nat := (nb E k).countP fun x => decide (x ∈ S)
def coin (E : Edges) (L S : List Int) (k : Nat) : Int := if (k : Int) ∈ S then 2 else (L.getD k 0 + (cnt E S k : Nat)) % 2
def beh (E : Edges) (L S : List Int) : List Int := (List.range L.length).map (coin E L S)
theorem beh_len (E : Edges) (L S : List Int) : (beh E L S).length = L.length := by simp [beh]
theorem beh_at {E : Edges} {L S : List Int} {k : Nat} (h : k < L.length) : (beh E L S).getD k 0 = coin E L S k := by
  unfold beh
  rw [List.getD_eq_getElem?_getD, List.getElem?_map, List.getElem?_range h]
  rfl
def heads (l : List Int) : List Int := ((List.range l.length).filter fun k : Nat => decide (l.getD k 0 = 1)).map fun k : Nat => (k : Int)
abbrev rdy (E : Edges) (L S : List Int) : List Int := heads (beh E L S)
theorem mem_heads {l : List Int} {x : Int} : x ∈ heads l ↔ ∃ k : Nat, x = (k : Int) ∧ k < l.length ∧ l.getD k 0 = 1 := by
  unfold heads
  rw [List.mem_map]
  constructor
  · rintro ⟨k, hk, e⟩
    obtain ⟨h1, h2⟩ := List.mem_filter.mp hk
    exact ⟨k, e.symm, List.mem_range.mp h1, of_decide_eq_true h2⟩
  · rintro ⟨k, e, h1, h2⟩
    exact ⟨k, List.mem_filter.mpr ⟨List.mem_range.mpr h1, decide_eq_true h2⟩, e.symm⟩
theorem heads_up (l : List Int) : (heads l).Pairwise (· < ·) := by
  unfold heads
  refine List.pairwise_map.mpr (((List.pairwise_lt_range).filter _).imp fun h => ?_)
  omega
theorem heads_rng {l : List Int} {x : Int} (h : x ∈ heads l) : 0 ≤ x ∧ x < l.length := by
  obtain ⟨k, e, h1, _⟩ := mem_heads.mp h
  omega
theorem mem_rdy {E : Edges} {L S : List Int} {x : Int} (h : x ∈ rdy E L S) : x ∉ S ∧ 0 ≤ x ∧ x < L.length := by
  obtain ⟨k, e, h1, h2⟩ := mem_heads.mp h
  rw [beh_len] at h1
  rw [beh_at h1] at h2
  subst e
  refine ⟨fun hm => ?_, by omega, by omega⟩
  unfold coin at h2
  rw [if_pos hm] at h2
  omega
theorem rdy_good {E : Edges} {L S : List Int} {x : Int} (g : Good L.length S) (h : x ∈ rdy E L S) : Good L.length (more S x) :=
  let ⟨a, b, c⟩ := mem_rdy h
  g.more a b c
theorem rdy_lt {E : Edges} {L S : List Int} (g : Good L.length S) (h : rdy E L S ≠ []) : S.length < L.length := by
  obtain ⟨x, hx⟩ := List.exists_mem_of_ne_nil _ h
  obtain ⟨a, b, c⟩ := mem_rdy hx
  exact g.len_lt a b c
end Ck

namespace Ck

def flipAt (l : List Int) (x : Int) : List Int := l.set x.toNat (if l.getD x.toNat 0 = 2 then 2 else 1 - l.getD x.toNat 0)
def flips (l : List Int) (ns : List Int) : List Int := ns.foldl flipAt l
def takeL (E : Edges) (l : List Int) (k : Int) : List Int := (flips l (nb E k)).set k.toNat 2
theorem flipAt_len (l : List Int) (x : Int) : (flipAt l x).length = l.length := by simp [flipAt]
theorem flips_len : ∀ (ns l : List Int), (flips l ns).length = l.length
  | [], _ => rfl
  | x :: ns, l => by
    show (flips (flipAt l x) ns).length = l.length
    rw [flips_len ns, flipAt_len]
def Coins (l : List Int) : Prop := ∀ x ∈ l, x = 0 ∨ x = 1 ∨ x = 2
theorem Coins.getD {l : List Int} (h : Coins l) (k : Nat) : l.getD k 0 = 0 ∨ l.getD k 0 = 1 ∨ l.getD k 0 = 2 := by
  rw [List.getD_eq_getElem?_getD]
  cases e : l[k]? with
  | none => exact .inl rfl
  | some x => exact h x (List.mem_of_getElem? e)
theorem getD_set (l : List Int) (i j : Nat) (v : Int) : (l.set i v).getD j 0 = if i = j ∧ i < l.length then v else l.getD j 0 := by
  rw [List.getD_eq_getElem?_getD, List.getD_eq_getElem?_getD, List.getElem?_set]
  by_cases h : i = j
  · subst h
    by_cases q : i < l.length
    · simp [q]
    · simp [q]
  · simp [h]
theorem Coins.flipAt {l : List Int} (h : Coins l) (x : Int) : Coins (flipAt l x) := by
  intro y hy
  unfold Ck.flipAt at hy
  rcases List.mem_or_eq_of_mem_set hy with h1 | h1
  · exact h y h1
  · rw [h1]
    have := h.getD x.toNat
    split <;> omega
theorem flips_at : ∀ (ns l : List Int) (j : Nat), Coins l → (∀ x ∈ ns, 0 ≤ x) → j < l.length → (flips l ns).getD j 0 = if l.getD j 0 = 2 then 2 else (l.getD j 0 + (ns.count (j : Int) : Nat)) % 2
  | [], l, j, h, _, hj => by
    show l.getD j 0 = _
    have := h.getD j
    rw [List.count_nil]
    split <;> omega
  | x :: ns, l, j, h, h0, hj => by
    show (flips (flipAt l x) ns).getD j 0 = _
    rw [flips_at ns _ j (h.flipAt x) (fun y hy => h0 y (List.mem_cons_of_mem _ hy)) (by rw [flipAt_len]; exact hj)]
    have c := h.getD j
    have x0 := h0 x List.mem_cons_self
    unfold Ck.flipAt
    rw [getD_set, List.count_cons]
    by_cases e : x.toNat = j ∧ x.toNat < l.length
    · have ex : (x == (j : Int)) = true := beq_iff_eq.mpr (by omega)
      rw [if_pos e, ex, e.1]
      generalize l.getD j 0 = v at c ⊢
      generalize ns.count (j : Int) = m
      rcases c with rfl | rfl | rfl
      · simp
        omega
      · simp
        omega
      · simp
    · have ex : (x == (j : Int)) = false := beq_eq_false_iff_ne.mpr (by omega)
      rw [if_neg e, ex]
      simp
theorem coin_rng (E : Edges) (L S : List Int) (k : Nat) : coin E L S k = 0 ∨ coin E L S k = 1 ∨ coin E L S k = 2 := by
  unfold coin
  split
  · exact .inr (.inr rfl)
  · omega
theorem beh_coins (E : Edges) (L S : List Int) : Coins (beh E L S) := by
  intro x hx
  unfold beh at hx
  obtain ⟨k, _, e⟩ := List.mem_map.mp hx
  rw [← e]
  exact coin_rng E L S k
theorem countP_more {S : List Int} {k : Int} (hk : k ∉ S) : ∀ l : List Int, (l.countP fun x => decide (x ∈ more S k)) = (l.countP fun x => decide (x ∈ S)) + l.count k
  | [] => rfl
  | x :: l => by
    rw [List.countP_cons, List.countP_cons, List.count_cons, countP_more hk l]
    by_cases h : x ∈ S
    · have e : (x == k) = false := beq_eq_false_iff_ne.mpr fun e => hk (e ▸ h)
      rw [if_pos (decide_eq_true (mem_more.mpr (.inl h))), if_pos (decide_eq_true h), e]
      simp
      omega
    · by_cases e : x = k
      · have e' : (x == k) = true := beq_iff_eq.mpr e
        rw [if_pos (decide_eq_true (mem_more.mpr (.inr e))), if_neg (by simp [h]), e']
        simp
        omega
      · have e' : (x == k) = false := beq_eq_false_iff_ne.mpr e
        rw [if_neg (by rw [decide_eq_true_eq, mem_more]; exact fun z => z.elim h e), if_neg (by simp [h]), e']
        simp
theorem ext_getD {l m : List Int} (hl : l.length = m.length) (h : ∀ j, j < l.length → l.getD j 0 = m.getD j 0) : l = m := by
  refine List.ext_getElem? fun j => ?_
  by_cases q : j < l.length
  · have := h j q
    rw [List.getD_eq_getElem?_getD, List.getD_eq_getElem?_getD] at this
    rw [List.getElem?_eq_getElem q, List.getElem?_eq_getElem (hl ▸ q)] at this ⊢
    simpa using this
  · rw [List.getElem?_eq_none (by omega), List.getElem?_eq_none (by omega)]
theorem take_beh {E : Edges} {L S : List Int} {k : Int} (w : WebOk L.length E) (hk : k ∉ S) (h0 : 0 ≤ k) (h1 : k < L.length) : takeL E (beh E L S) k = beh E L (more S k) := by
  refine ext_getD (by simp [takeL, flips_len, beh_len]) fun j hj => ?_
  have hj' : j < L.length := by simpa [takeL, flips_len, beh_len] using hj
  rw [beh_at hj']
  unfold takeL
  rw [getD_set, flips_len, beh_len, flips_at _ _ j (beh_coins E L S) (fun x hx => (nb_rng w hx).1) (by rw [beh_len]; exact hj'), beh_at hj']
  by_cases e : k.toNat = j
  · have ek : (j : Int) = k := by omega
    rw [if_pos ⟨e, by omega⟩]
    unfold coin
    rw [if_pos (mem_more.mpr (.inr ek))]
  · have ek : ¬ (j : Int) = k := by omega
    rw [if_neg (fun z => e z.1)]
    unfold coin
    by_cases q : (j : Int) ∈ S
    · rw [if_pos q, if_pos rfl, if_pos (mem_more.mpr (.inl q))]
    · rw [if_neg q, if_neg (fun z => (mem_more.mp z).elim q ek), if_neg (by omega)]
      unfold cnt
      rw [countP_more hk, nb_sym (j : Int) k ek E]
      omega
def stOf (l : List Int) : List Int := ((List.range l.length).filter fun k : Nat => decide (l.getD k 0 = 2)).map fun k : Nat => (k : Int)
theorem stOf_beh {E : Edges} {L S : List Int} (g : Good L.length S) : stOf (beh E L S) = S := by
  refine up_mem ?_ g.up fun x => ?_
  · unfold stOf
    refine List.pairwise_map.mpr (((List.pairwise_lt_range).filter _).imp fun h => ?_)
    omega
  · unfold stOf
    rw [List.mem_map]
    constructor
    · rintro ⟨k, hk, e⟩
      obtain ⟨h1, h2⟩ := List.mem_filter.mp hk
      have hk' : k < L.length := by have := List.mem_range.mp h1; rwa [beh_len] at this
      have h3 := of_decide_eq_true h2
      rw [beh_at hk'] at h3
      unfold coin at h3
      by_cases q : (k : Int) ∈ S
      · rw [← e]; exact q
      · rw [if_neg q] at h3; omega
    · intro hx
      obtain ⟨a, b⟩ := g.rng x hx
      have hk' : x.toNat < L.length := by omega
      refine ⟨x.toNat, List.mem_filter.mpr ⟨List.mem_range.mpr (by rw [beh_len]; exact hk'), decide_eq_true ?_⟩, by omega⟩
      rw [beh_at hk']
      unfold coin
      rw [if_pos (by rw [Int.toNat_of_nonneg a]; exact hx)]
theorem beh_nil {E : Edges} {L : List Int} (h : ∀ x ∈ L, x = 0 ∨ x = 1) : beh E L [] = L := by
  refine ext_getD (beh_len ..) fun j hj => ?_
  rw [beh_len] at hj
  rw [beh_at hj]
  unfold coin cnt
  rw [if_neg (by simp)]
  have z : (nb E (j : Int)).countP (fun x => decide (x ∈ ([] : List Int))) = 0 := List.countP_eq_zero.mpr fun x _ => by simp
  rw [z, List.getD_eq_getElem?_getD, List.getElem?_eq_getElem hj]
  have := h _ (List.getElem_mem hj)
  simp
  omega
def leftOf (l : List Int) : Nat := l.countP fun x => decide (x ≠ 2)
theorem leftOf_beh {E : Edges} {L S : List Int} (g : Good L.length S) : (leftOf (beh E L S) : Int) = (L.length : Int) - S.length := by
  have e1 : leftOf (beh E L S) + (stOf (beh E L S)).length = (beh E L S).length := by
    have gen : ∀ (l : List Int), leftOf l + ((List.range l.length).filter fun k : Nat => decide (l.getD k 0 = 2)).length = l.length := by
      intro l
      unfold leftOf
      rw [← List.countP_eq_length_filter]
      have : ∀ (l : List Int), (List.range l.length).countP (fun k : Nat => decide (l.getD k 0 = 2)) = l.countP fun x => decide (x = 2) := by
        intro l
        induction l with
        | nil => rfl
        | cons x r ih =>
          rw [List.length_cons, List.range_succ_eq_map, List.countP_cons, List.countP_cons, List.countP_map, ← ih]
          rfl
      rw [this l]
      clear this
      induction l with
      | nil => rfl
      | cons x r ih =>
        rw [List.countP_cons, List.countP_cons, List.length_cons]
        by_cases q : x = 2
        · rw [if_neg (by simp [q]), if_pos (by simp [q])]
          omega
        · rw [if_pos (by simp [q]), if_neg (by simp [q])]
          omega
    have := gen (beh E L S)
    unfold stOf
    rw [List.length_map]
    exact this
  rw [stOf_beh g, beh_len] at e1
  omega
end Ck

namespace Ck
section
variable (E : Edges) (L : List Int)
def win : Nat → List Int → Bool → Bool
  | 0, S, _ => decide (S.length = L.length)
  | f + 1, S, b => if rdy E L S = [] then decide (S.length = L.length)
      else if b = true then (rdy E L S).any fun k => win f (more S k) false
      else (rdy E L S).all fun k => win f (more S k) true
def wn (S : List Int) (b : Bool) : Bool := win E L (L.length - S.length) S b
def mv (S : List Int) : Int := ((rdy E L S).filter fun k => wn E L (more S k) false).headD 0
def Fit (S : List Int) (b : Bool) (v : Int) : Prop := 0 ≤ v ∧ (v = 0 ↔ wn E L S b = true)
def Told (S : List Int) (b : Bool) (ns : List Int) : Prop := ns.length = (rdy E L S).length ∧ ∀ (i : Nat) (k : Int), (rdy E L S)[i]? = some k → ∃ v, ns[i]? = some v ∧ Fit E L (more S k) (!b) v
inductive Rch (f : Bool) : List Int → Bool → Prop
  | root : Rch f [] f
  | mine {S : List Int} : Rch f S true → rdy E L S ≠ [] → Rch f (more S (mv E L S)) false
  | his {S : List Int} {k : Int} : Rch f S false → k ∈ rdy E L S → Rch f (more S k) true
end
section
variable {E : Edges} {L S : List Int} {b f : Bool}
theorem wn_end (g : Good L.length S) (h : rdy E L S = []) : wn E L S b = decide (S.length = L.length) := by
  unfold wn
  cases e : L.length - S.length with
  | zero => rfl
  | succ d =>
    unfold win
    rw [if_pos h]
theorem wn_step (g : Good L.length S) (h : rdy E L S ≠ []) : wn E L S b = if b = true then (rdy E L S).any fun k => wn E L (more S k) false else (rdy E L S).all fun k => wn E L (more S k) true := by
  have lt := rdy_lt g h
  have e : ∀ k b', wn E L (more S k) b' = win E L (L.length - S.length - 1) (more S k) b' := fun k b' => by
    unfold wn
    rw [more_len, Nat.sub_add_eq]
  simp only [e]
  unfold wn
  cases q : L.length - S.length with
  | zero => omega
  | succ d =>
    rw [win, if_neg h, Nat.add_sub_cancel]
theorem fit_end (g : Good L.length S) (h : rdy E L S = []) : Fit E L S b ((L.length : Int) - S.length) := by
  have le := g.len_le
  refine ⟨by omega, ?_⟩
  rw [wn_end g h, decide_eq_true_eq]
  omega
theorem fit_min {ns : List Int} {m : Int} (g : Good L.length S) (h : rdy E L S ≠ []) (t : Told E L S true ns) (hm : m ∈ ns) (hl : ∀ y ∈ ns, m ≤ y) : Fit E L S true m := by
  obtain ⟨tl, tv⟩ := t
  have back : ∀ y ∈ ns, ∃ k ∈ rdy E L S, Fit E L (more S k) false y := fun y hy => by
    obtain ⟨i, hi⟩ := List.mem_iff_getElem?.mp hy
    have hlt : i < (rdy E L S).length := by rw [← tl]; exact (List.getElem?_eq_some_iff.mp hi).1
    obtain ⟨v, hv, fv⟩ := tv i _ (List.getElem?_eq_getElem hlt)
    rw [hi] at hv
    cases hv
    exact ⟨_, List.getElem_mem hlt, fv⟩
  obtain ⟨k, hk, fk⟩ := back m hm
  refine ⟨fk.1, ?_⟩
  rw [wn_step g h, if_pos rfl, List.any_eq_true]
  constructor
  · intro e
    exact ⟨k, hk, fk.2.mp e⟩
  · rintro ⟨k', hk', e'⟩
    obtain ⟨i, hi⟩ := List.mem_iff_getElem?.mp hk'
    obtain ⟨v, hv, fv⟩ := tv i k' hi
    have z : v = 0 := fv.2.mpr e'
    have := hl v (List.mem_of_getElem? hv)
    have := fk.1
    omega
theorem fit_max {ns : List Int} {m : Int} (g : Good L.length S) (h : rdy E L S ≠ []) (t : Told E L S false ns) (hm : m ∈ ns) (hl : ∀ y ∈ ns, y ≤ m) : Fit E L S false m := by
  obtain ⟨tl, tv⟩ := t
  have back : ∀ y ∈ ns, ∃ k ∈ rdy E L S, Fit E L (more S k) true y := fun y hy => by
    obtain ⟨i, hi⟩ := List.mem_iff_getElem?.mp hy
    have hlt : i < (rdy E L S).length := by rw [← tl]; exact (List.getElem?_eq_some_iff.mp hi).1
    obtain ⟨v, hv, fv⟩ := tv i _ (List.getElem?_eq_getElem hlt)
    rw [hi] at hv
    cases hv
    exact ⟨_, List.getElem_mem hlt, fv⟩
  obtain ⟨k, hk, fk⟩ := back m hm
  refine ⟨fk.1, ?_⟩
  rw [wn_step g h, if_neg (by simp), List.all_eq_true]
  constructor
  · intro e k' hk'
    obtain ⟨i, hi⟩ := List.mem_iff_getElem?.mp hk'
    obtain ⟨v, hv, fv⟩ := tv i k' hi
    have := hl v (List.mem_of_getElem? hv)
    have := fv.1
    exact fv.2.mp (by omega)
  · intro e
    exact fk.2.mpr (e k hk)
theorem mv_ok (g : Good L.length S) (h : rdy E L S ≠ []) (w : wn E L S true = true) : mv E L S ∈ rdy E L S ∧ wn E L (more S (mv E L S)) false = true := by
  rw [wn_step g h, if_pos rfl, List.any_eq_true] at w
  obtain ⟨k, hk, e⟩ := w
  have hm : k ∈ (rdy E L S).filter fun k => wn E L (more S k) false := List.mem_filter.mpr ⟨hk, e⟩
  have q : mv E L S ∈ (rdy E L S).filter fun k => wn E L (more S k) false := by
    unfold mv
    cases r : (rdy E L S).filter fun k => wn E L (more S k) false with
    | nil => rw [r] at hm; cases hm
    | cons x t => exact List.mem_cons_self
  exact List.mem_filter.mp q
theorem Rch.ok (w : wn E L [] f = true) (r : Rch E L f S b) : Good L.length S ∧ wn E L S b = true := by
  induction r with
  | root => exact ⟨Good.nil _, w⟩
  | mine r h ih =>
    obtain ⟨a, c⟩ := mv_ok ih.1 h ih.2
    exact ⟨rdy_good ih.1 a, c⟩
  | his r h ih =>
    refine ⟨rdy_good ih.1 h, ?_⟩
    have q := ih.2
    rw [wn_step ih.1 (List.ne_nil_of_mem h), if_neg (by simp), List.all_eq_true] at q
    exact q _ h
theorem Rch.good (w : wn E L [] f = true) (r : Rch E L f S b) : Good L.length S := (r.ok w).1
theorem Rch.mv (w : wn E L [] f = true) (r : Rch E L f S true) (h : rdy E L S ≠ []) : mv E L S ∈ rdy E L S := (mv_ok (r.ok w).1 h (r.ok w).2).1
theorem Rch.full (w : wn E L [] f = true) (r : Rch E L f S b) (h : rdy E L S = []) : S.length = L.length := by
  have q := (r.ok w).2
  rw [wn_end (r.ok w).1 h, decide_eq_true_eq] at q
  exact q
end

section
variable (E : Edges) (L : List Int) (f : Bool)
def Pend (ks sn : List (List Int)) (rows : List (List Int × Bool)) (p : List Int × Bool) : Prop := p ∈ rows ∨ (p.2 = true ∧ (p.1 ∈ ks ∨ rdy E L p.1 = [])) ∨ (p.2 = false ∧ p.1 ∈ sn)
structure Srch (ks sn : List (List Int)) (rows : List (List Int × Bool)) : Prop where
  rch : ∀ p ∈ rows, Rch E L f p.1 p.2
  kR : ∀ S ∈ ks, Rch E L f S true ∧ rdy E L S ≠ []
  sR : ∀ S ∈ sn, Rch E L f S false
  kN : ks.Nodup
  sN : sn.Nodup
  root : Pend E L ks sn rows ([], f)
  kX : ∀ S ∈ ks, Pend E L ks sn rows (more S (mv E L S), false)
  sX : ∀ S ∈ sn, ∀ k ∈ rdy E L S, Pend E L ks sn rows (more S k, true)
end
section
variable {E : Edges} {L : List Int} {f : Bool} {ks sn : List (List Int)} {r : List (List Int × Bool)} {S : List Int} {b : Bool}
theorem Srch.start : Srch E L f [] [] [([], f)] where
  rch := fun p hp => by rw [List.mem_singleton.mp hp]; exact .root
  kR := fun S h => by cases h
  sR := fun S h => by cases h
  kN := List.nodup_nil
  sN := List.nodup_nil
  root := .inl List.mem_cons_self
  kX := fun S h => by cases h
  sX := fun S h => by cases h
theorem Pend.step {ks' sn' : List (List Int)} {r' : List (List Int × Bool)} {p q : List Int × Bool} (h : Pend E L ks sn (r ++ [q]) p) (hr : ∀ x ∈ r, x ∈ r') (hk : ∀ x ∈ ks, x ∈ ks') (hs : ∀ x ∈ sn, x ∈ sn') (hq : Pend E L ks' sn' r' q) : Pend E L ks' sn' r' p := by
  rcases h with h | ⟨e, h | h⟩ | ⟨e, h⟩
  · rcases List.mem_append.mp h with h | h
    · exact .inl (hr p h)
    · rw [List.mem_singleton.mp h]; exact hq
  · exact .inr (.inl ⟨e, .inl (hk _ h)⟩)
  · exact .inr (.inl ⟨e, .inr h⟩)
  · exact .inr (.inr ⟨e, hs _ h⟩)
theorem nd_snoc {α : Type} {l : List α} {x : α} (h : l.Nodup) (hx : x ∉ l) : (l ++ [x]).Nodup :=
  List.nodup_append.mpr ⟨h, List.nodup_cons.mpr ⟨by simp, List.nodup_nil⟩, fun a ha b hb e => hx (by rw [List.mem_singleton.mp hb] at e; exact e ▸ ha)⟩
theorem Srch.take (s : Srch E L f ks sn (r ++ [(S, true)])) (h : rdy E L S ≠ []) (hn : S ∉ ks) : Srch E L f (ks ++ [S]) sn (r ++ [(more S (mv E L S), false)]) := by
  have me := s.rch (S, true) (List.mem_append_right _ (List.mem_singleton.mpr rfl))
  have go : ∀ {p}, Pend E L ks sn (r ++ [(S, true)]) p → Pend E L (ks ++ [S]) sn (r ++ [(more S (mv E L S), false)]) p := fun h =>
    h.step (fun x hx => List.mem_append_left _ hx) (fun x hx => List.mem_append_left _ hx) (fun _ hx => hx) (.inr (.inl ⟨rfl, .inl (List.mem_append_right _ (List.mem_singleton.mpr rfl))⟩))
  refine ⟨fun p hp => ?_, fun T hT => ?_, s.sR, nd_snoc s.kN hn, s.sN, go s.root, fun T hT => ?_, fun T hT k hk => go (s.sX T hT k hk)⟩
  · rcases List.mem_append.mp hp with hp | hp
    · exact s.rch p (List.mem_append_left _ hp)
    · rw [List.mem_singleton.mp hp]; exact .mine me h
  · rcases List.mem_append.mp hT with hT | hT
    · exact s.kR T hT
    · rw [List.mem_singleton.mp hT]; exact ⟨me, h⟩
  · rcases List.mem_append.mp hT with hT | hT
    · exact go (s.kX T hT)
    · rw [List.mem_singleton.mp hT]; exact .inl (List.mem_append_right _ (List.mem_singleton.mpr rfl))
theorem Srch.skip (s : Srch E L f ks sn (r ++ [(S, b)])) (h : (b = true ∧ (S ∈ ks ∨ rdy E L S = [])) ∨ (b = false ∧ S ∈ sn)) : Srch E L f ks sn r := by
  have go : ∀ {p}, Pend E L ks sn (r ++ [(S, b)]) p → Pend E L ks sn r p := fun q => q.step (fun _ hx => hx) (fun _ hx => hx) (fun _ hx => hx) (.inr h)
  exact ⟨fun p hp => s.rch p (List.mem_append_left _ hp), s.kR, s.sR, s.kN, s.sN, go s.root, fun T hT => go (s.kX T hT), fun T hT k hk => go (s.sX T hT k hk)⟩
theorem Srch.spread (s : Srch E L f ks sn (r ++ [(S, false)])) (hn : S ∉ sn) : Srch E L f ks (sn ++ [S]) (r ++ (rdy E L S).map fun k => (more S k, true)) := by
  have me := s.rch (S, false) (List.mem_append_right _ (List.mem_singleton.mpr rfl))
  have go : ∀ {p}, Pend E L ks sn (r ++ [(S, false)]) p → Pend E L ks (sn ++ [S]) (r ++ (rdy E L S).map fun k => (more S k, true)) p := fun h =>
    h.step (fun x hx => List.mem_append_left _ hx) (fun _ hx => hx) (fun x hx => List.mem_append_left _ hx) (.inr (.inr ⟨rfl, List.mem_append_right _ (List.mem_singleton.mpr rfl)⟩))
  refine ⟨fun p hp => ?_, s.kR, fun T hT => ?_, s.kN, nd_snoc s.sN hn, go s.root, fun T hT => go (s.kX T hT), fun T hT k hk => ?_⟩
  · rcases List.mem_append.mp hp with hp | hp
    · exact s.rch p (List.mem_append_left _ hp)
    · obtain ⟨k, hk, e⟩ := List.mem_map.mp hp
      rw [← e]; exact .his me hk
  · rcases List.mem_append.mp hT with hT | hT
    · exact s.sR T hT
    · rw [List.mem_singleton.mp hT]; exact me
  · rcases List.mem_append.mp hT with hT | hT
    · exact go (s.sX T hT k hk)
    · rw [List.mem_singleton.mp hT] at hk ⊢
      exact .inl (List.mem_append_right _ (List.mem_map.mpr ⟨k, hk, rfl⟩))
theorem Srch.done (s : Srch E L f ks sn []) (T : List Int) : T ∈ ks ↔ Rch E L f T true ∧ rdy E L T ≠ [] := by
  have all : ∀ T b, Rch E L f T b → (b = true ∧ (T ∈ ks ∨ rdy E L T = [])) ∨ (b = false ∧ T ∈ sn) := by
    intro T b h
    induction h with
    | root => exact s.root.resolve_left (by simp)
    | @mine S h q ih =>
      rcases ih with ⟨_, ih⟩ | ⟨e, _⟩
      · exact (s.kX S (ih.resolve_right q)).resolve_left (by simp)
      · cases e
    | @his S k h q ih =>
      rcases ih with ⟨e, _⟩ | ⟨_, ih⟩
      · cases e
      · exact (s.sX S ih k q).resolve_left (by simp)
  refine ⟨s.kR T, fun ⟨h, q⟩ => ?_⟩
  rcases all T true h with ⟨_, e⟩ | ⟨e, _⟩
  · exact e.resolve_right q
  · cases e

def wt (n : Nat) (rows : List (List Int × Bool)) : Nat := (rows.map fun p => 7 ^ (n - p.1.length)).sum
theorem wt_app (n : Nat) (r q : List (List Int × Bool)) : wt n (r ++ q) = wt n r + wt n q := by simp [wt]
theorem wt_one (n : Nat) (p : List Int × Bool) : wt n [p] = 7 ^ (n - p.1.length) := by simp [wt]
theorem wt_len (n : Nat) : ∀ rows, rows.length ≤ wt n rows
  | [] => Nat.zero_le _
  | p :: r => by
    have ih := wt_len n r
    have e : wt n (p :: r) = 7 ^ (n - p.1.length) + wt n r := by simp [wt]
    have : 1 ≤ 7 ^ (n - p.1.length) := Nat.one_le_pow _ _ (by decide)
    rw [e, List.length_cons]
    omega
theorem wt_skip : wt L.length r < wt L.length (r ++ [(S, b)]) := by
  rw [wt_app, wt_one]
  have : 1 ≤ 7 ^ (L.length - S.length) := Nat.one_le_pow _ _ (by decide)
  show _ < _ + 7 ^ (L.length - S.length)
  omega
theorem wt_take (g : Good L.length S) (h : rdy E L S ≠ []) (k : Int) (c : Bool) : wt L.length (r ++ [(more S k, c)]) < wt L.length (r ++ [(S, b)]) := by
  rw [wt_app, wt_app, wt_one, wt_one]
  show _ + 7 ^ (L.length - (more S k).length) < _ + 7 ^ (L.length - S.length)
  have lt := rdy_lt g h
  rw [more_len, show L.length - S.length = (L.length - (S.length + 1)) + 1 by omega, Nat.pow_succ]
  have : 1 ≤ 7 ^ (L.length - (S.length + 1)) := Nat.one_le_pow _ _ (by decide)
  omega
theorem rdy_le (E : Edges) (L S : List Int) : (rdy E L S).length ≤ L.length := by
  have q := nd_len (l := rdy E L S) (D := rngI L.length) ((heads_up _).imp fun h => Int.ne_of_lt h) fun x hx => by
    obtain ⟨_, a, b⟩ := mem_rdy hx
    exact mem_rngI.mpr ⟨a, b⟩
  rwa [rngI_len] at q
theorem wt_spread (g : Good L.length S) (h6 : L.length ≤ 6) : wt L.length (r ++ (rdy E L S).map fun k => (more S k, true)) < wt L.length (r ++ [(S, b)]) := by
  rw [wt_app, wt_app, wt_one]
  show _ < _ + 7 ^ (L.length - S.length)
  have each : ∀ l : List Int, wt L.length (l.map fun k => (more S k, true)) = l.length * 7 ^ (L.length - (S.length + 1)) := by
    intro l
    induction l with
    | nil => simp [wt]
    | cons x t ih =>
      have e : wt L.length ((x :: t).map fun k => (more S k, true)) = 7 ^ (L.length - (more S x).length) + wt L.length (t.map fun k => (more S k, true)) := by simp [wt]
      rw [e, ih, more_len, List.length_cons, Nat.succ_mul]
      omega
  rw [each]
  by_cases q : rdy E L S = []
  · rw [q]
    have : 1 ≤ 7 ^ (L.length - S.length) := Nat.one_le_pow _ _ (by decide)
    simp
    omega
  · have lt := rdy_lt g q
    have le := rdy_le E L S
    rw [show L.length - S.length = (L.length - (S.length + 1)) + 1 by omega, Nat.pow_succ]
    have p1 : 1 ≤ 7 ^ (L.length - (S.length + 1)) := Nat.one_le_pow _ _ (by decide)
    have p2 : (rdy E L S).length * 7 ^ (L.length - (S.length + 1)) ≤ 6 * 7 ^ (L.length - (S.length + 1)) := Nat.mul_le_mul_right _ (Nat.le_trans le h6)
    omega
theorem wt_start (h6 : L.length ≤ 6) (f : Bool) : wt L.length [([], f)] ≤ 117649 := by
  rw [wt_one]
  show 7 ^ (L.length - 0) ≤ 7 ^ 6
  exact Nat.pow_le_pow_right (by decide) (by omega)

def nxt (E : Edges) (L : List Int) (p : List Int × Bool) : List (List Int × Bool) := if p.2 = true then (if rdy E L p.1 = [] then [] else [(more p.1 (mv E L p.1), false)]) else (rdy E L p.1).map fun k => (more p.1 k, true)
def Lev (E : Edges) (L : List Int) (f : Bool) (j : Nat) (p : List Int × Bool) : Prop := Rch E L f p.1 p.2 ∧ p.1.length = j
theorem lev_zero (p : List Int × Bool) : Lev E L f 0 p ↔ p = ([], f) := by
  constructor
  · rintro ⟨h, e⟩
    obtain ⟨S, b⟩ := p
    cases h with
    | root => rfl
    | @mine T _ _ =>
      have e' : (more T (mv E L T)).length = 0 := e
      rw [more_len] at e'
      omega
    | @his T k _ _ =>
      have e' : (more T k).length = 0 := e
      rw [more_len] at e'
      omega
  · rintro rfl
    exact ⟨.root, rfl⟩
theorem lev_succ (j : Nat) (q : List Int × Bool) : Lev E L f (j + 1) q ↔ ∃ p, Lev E L f j p ∧ q ∈ nxt E L p := by
  constructor
  · rintro ⟨h, e⟩
    obtain ⟨S, b⟩ := q
    cases h with
    | root => cases e
    | @mine T h hn =>
      replace e : (more T (mv E L T)).length = j + 1 := e
      rw [more_len] at e
      refine ⟨(T, true), ⟨h, (by omega : T.length = j)⟩, ?_⟩
      unfold nxt
      rw [if_pos rfl, if_neg hn]
      exact List.mem_singleton.mpr rfl
    | @his T k h hk =>
      replace e : (more T k).length = j + 1 := e
      rw [more_len] at e
      refine ⟨(T, false), ⟨h, (by omega : T.length = j)⟩, ?_⟩
      unfold nxt
      rw [if_neg (by simp)]
      exact List.mem_map.mpr ⟨k, hk, rfl⟩
  · rintro ⟨⟨S, b⟩, ⟨h, e⟩, hq⟩
    unfold nxt at hq
    cases b with
    | true =>
      rw [if_pos rfl] at hq
      by_cases z : rdy E L S = []
      · rw [if_pos z] at hq; cases hq
      · rw [if_neg z] at hq
        rw [List.mem_singleton.mp hq]
        exact ⟨.mine h z, by rw [more_len]; omega⟩
    | false =>
      rw [if_neg (by simp)] at hq
      obtain ⟨k, hk, rfl⟩ := List.mem_map.mp hq
      exact ⟨.his h hk, by rw [more_len]; omega⟩

def subs : List Int → List (List Int)
  | [] => [[]]
  | x :: r => (subs r).map (x :: ·) ++ subs r
theorem mem_subs : ∀ (l S : List Int), l.Pairwise (· < ·) → S.Pairwise (· < ·) → (∀ x ∈ S, x ∈ l) → S ∈ subs l
  | [], S, _, _, h => by
    cases S with
    | nil => exact List.mem_singleton.mpr rfl
    | cons x t => exact absurd (h x List.mem_cons_self) (by simp)
  | y :: l, S, hl, hS, h => by
    obtain ⟨l1, l2⟩ := List.pairwise_cons.mp hl
    unfold subs
    cases S with
    | nil => exact List.mem_append_right _ (mem_subs l [] l2 List.Pairwise.nil (fun x hx => by cases hx))
    | cons x t =>
      obtain ⟨t1, t2⟩ := List.pairwise_cons.mp hS
      rcases List.mem_cons.mp (h x List.mem_cons_self) with e | hx
      · subst e
        refine List.mem_append_left _ (List.mem_map.mpr ⟨t, mem_subs l t l2 t2 fun z hz => ?_, rfl⟩)
        rcases List.mem_cons.mp (h z (List.mem_cons_of_mem _ hz)) with e | hz'
        · have := t1 z hz; omega
        · exact hz'
      · refine List.mem_append_right _ (mem_subs l (x :: t) l2 hS fun z hz => ?_)
        rcases List.mem_cons.mp (h z hz) with e | hz'
        · have a := l1 x hx
          rcases List.mem_cons.mp hz with e2 | hz2
          · omega
          · have := t1 z hz2; omega
        · exact hz'
theorem good_subs {n : Nat} (h6 : n ≤ 6) (g : Good n S) : S ∈ subs [0, 1, 2, 3, 4, 5] := by
  refine mem_subs _ S (by decide) g.up fun x hx => ?_
  obtain ⟨a, b⟩ := g.rng x hx
  have : x = 0 ∨ x = 1 ∨ x = 2 ∨ x = 3 ∨ x = 4 ∨ x = 5 := by omega
  simpa using this
theorem states_le {n : Nat} (h6 : n ≤ 6) {l : List (List Int)} (nd : l.Nodup) (h : ∀ S ∈ l, Good n S) : l.length ≤ 64 :=
  nd_len nd (D := subs [0, 1, 2, 3, 4, 5]) fun S hS => good_subs h6 (h S hS)
theorem pairs_le {n : Nat} (h6 : n ≤ 6) {l : List (List Int × Bool)} (nd : l.Nodup) (h : ∀ p ∈ l, Good n p.1) : l.length ≤ 128 :=
  nd_len nd (D := (subs [0, 1, 2, 3, 4, 5]).map (·, true) ++ (subs [0, 1, 2, 3, 4, 5]).map (·, false)) fun ⟨S, b⟩ hp => by
    have q := good_subs h6 (h _ hp)
    cases b with
    | true => exact List.mem_append_left _ (List.mem_map.mpr ⟨S, q, rfl⟩)
    | false => exact List.mem_append_right _ (List.mem_map.mpr ⟨S, q, rfl⟩)
end

def lle : List Int → List Int → Bool
  | [], _ => true
  | _ :: _, [] => false
  | x :: xs, y :: ys => if x = y then lle xs ys else decide (x ≤ y)
theorem lle_anti : ∀ {a b : List Int}, lle a b = true → lle b a = true → a = b
  | [], [], _, _ => rfl
  | [], _ :: _, _, h => by simp [lle] at h
  | _ :: _, [], h, _ => by simp [lle] at h
  | x :: xs, y :: ys, h, k => by
    unfold lle at h k
    by_cases e : x = y
    · rw [if_pos e] at h
      rw [if_pos e.symm] at k
      rw [e, lle_anti h k]
    · rw [if_neg e, decide_eq_true_eq] at h
      rw [if_neg (fun z => e z.symm), decide_eq_true_eq] at k
      omega
theorem lle_uniq {l m : List (List Int)} (p : l.Perm m) (hl : l.Pairwise fun a b => lle a b = true) (hm : m.Pairwise fun a b => lle a b = true) : l = m :=
  up_uniq (fun _ _ a b => lle_anti a b) p hl hm
end Ck

namespace PySem
namespace CkE
open Sem (wp)
abbrev eObj (n : Addr) : Obj := ⟨.type "enumerate", none, .fields #[.none, .bool false, .ref n, rawInt 0, .none, .none], #[]⟩
theorem new1 {v : Value} {o : Obj} {G : Heap → Prop} (B : Begins v o G) : Meets (Builtin.«enumerate.__new__» ⟨[.type "enumerate", v], []⟩)
    (fun _ R s => G s.heap ∧ R (.ok (.ret (.ref (s.heap.push o).objs.size))) { s with heap := (s.heap.push o).push (eObj s.heap.objs.size) }) :=
  .of_wp fun prog w A R ⟨hp, g, d, tk, os⟩ ⟨h1, h⟩ => by
    have hsub := sub_enumerate
    have q1 : ∀ {A' : Around} {E : Value → Shared → Prop} {Q : Value → Shared → Prop}, Q (.ref hp.objs.size) ⟨hp.push o, g, d, tk, os⟩ → wpAny (model prog w) A' (pyIter v) Q E ⟨hp, g, d, tk, os⟩ := fun q =>
      B.iter prog w _ _ ⟨hp, g, d, tk, os⟩ _ h1 q
    wp_walk using q1
    refine wpAny_stack_any fun st => wpAny_pure ?_
    split
    · rename_i c _ _ _ _ _
      cases (c == Value.type "enumerate")
      · wp_walk using q1
        exact ⟨_, rfl, h⟩
      · wp_walk using q1
        exact ⟨_, rfl, h⟩
    · wp_walk using q1
      exact ⟨_, rfl, h⟩
section
variable {prog : Program} {w : World} {A : Around} {E : Value → Shared → Prop} {s : Shared}
theorem call1 {v : Value} {o : Obj} {G : Heap → Prop} {Q : Value → Shared → Prop} (B : Begins v o G) (h1 : G s.heap)
    (h : ∀ h', IsEnum h' (s.heap.objs.size + 1) s.heap.objs.size 0 .none → h'.get? s.heap.objs.size = some o → (∀ b u, s.heap.get? b = some u → h'.get? b = some u) → Q (.ref (s.heap.objs.size + 1)) { s with heap := h' }) :
    wpAny (model prog w) A (call (.type "enumerate") [v]) Q E s := by
  refine callType_new F.called_enumerate (by decide) (F.typeCall_enumerate_1 _) (F.newCall_enumerate_1 _) (fun obj => F.args_object_init_2 obj _) F.entry_enumerate_new (new1 B) ⟨h1, ?_⟩
  have hz : (s.heap.push o).objs.size = s.heap.objs.size + 1 := Heap.size_push ..
  have at1 : ((s.heap.push o).push (eObj s.heap.objs.size)).get? (s.heap.objs.size + 1) = some (eObj s.heap.objs.size) := by
    rw [← hz]
    exact Heap.get?_push_size _ rfl
  have fin := h ((s.heap.push o).push (eObj s.heap.objs.size)) at1 (Heap.get?_push_of_some _ (Heap.get?_push_size _ B.free)) fun b u q => Heap.get?_push_of_some _ (Heap.get?_push_of_some _ q)
  rw [← hz] at fin at1
  exact ⟨⟨_, at1, rfl⟩, fin⟩
end
end CkE
end PySem
namespace L2
open PySem PySem.Spec PyProof.Rows
def ItE (K : PySem.W.Frag) (a : Addr) : It where
  go i H := ∃ (xs : List V) (x : V), SqT K H a xs ∧ xs[i]? = some x
  yld i H v H' := ∃ T x, v = .ref T ∧ H T = none ∧ H' = upd H T (.tup [.int (i : Nat), x]) ∧ ∀ xs, SqT K H a xs → xs[i]? = some x
  stop i H := ∃ xs : List V, SqT K H a xs ∧ xs.length = i
theorem turn_enumT {P : Program} {w : World} {K : PySem.W.Frag} {elts : List Expr} {kk : Nat} {tpos : Pos} (a e it : Addr) :
    Turn P w K (.Tuple elts kk tpos) (ItE K a) [e, it] e (fun i h => (∃ old, IsEnum h e it (i : Int) old) ∧ h.IsTupleIter it a i ∧ e ≠ it) where
  mem := List.mem_cons_self
  obj := fun i h st b hb => by
    obtain ⟨⟨old, he⟩, ⟨oi, hoi, _, hdi⟩, _⟩ := st
    rcases List.mem_cons.mp hb with z | hb
    · subst z
      exact ⟨_, he, fun v q => nomatch q⟩
    · rw [List.mem_singleton.mp hb]
      exact ⟨oi, hoi, fun v q => by rw [hdi] at q; cases q⟩
  keep := fun i h h' st k => by
    obtain ⟨⟨old, he⟩, hi, ne⟩ := st
    exact ⟨⟨old, k e List.mem_cons_self _ he⟩, hi.at fun o q => k it (List.mem_cons_of_mem _ List.mem_cons_self) o q, ne⟩
  item := by
    intro X eP eW eK hcalm i pins s σ H E I hf st hg
    subst eP eW eK
    obtain ⟨⟨old, he⟩, hit, ne⟩ := st
    obtain ⟨xs, x, hq, hx⟩ := hg
    obtain ⟨its, rv, p, _⟩ := I.tuple hq
    obtain ⟨u, hu, ru⟩ := rv.get hx
    have hel : e < s.heap.objs.size := Heap.lt_size he
    have hil : it < s.heap.objs.size := by
      obtain ⟨_, q, _⟩ := hit
      exact Heap.lt_size q
    have pt : s.heap.IsTuple a its.toArray := p
    have nea : a ≠ it := fun z => by
      obtain ⟨o1, q1, c1, _⟩ := hit
      obtain ⟨o2, q2, c2, _⟩ := pt
      rw [z, q1] at q2
      cases q2
      rw [c1] at c2
      exact absurd c2 (by simp)
    have hlt : i < its.toArray.size := by
      rw [List.size_toArray]
      exact (List.getElem?_eq_some_iff.mp hu).1
    refine wpAny_pyNext_enum_itemC (fp := [it, a]) (Draws.tuple (prog := X.prog) (w := X.w) (A := X.A.in1) (I.ok.hd hcalm) it a nea its.toArray) he ⟨hit, pt⟩ hlt ne ?_ fun x' h' tk hP ho hst' hT hsz hk => ?_
    · intro hm
      rcases List.mem_cons.mp hm with z | hm
      · exact ne z
      · have z := List.mem_singleton.mp hm
        obtain ⟨o2, q2, c2, _⟩ := pt
        have he' : s.heap.get? e = some _ := he
        rw [z, q2] at he'
        cases he'
        exact absurd c2 (by simp)
    · have ex : x' = u := by
        have h1 : its.toArray[i]? = some x' := hP
        have h2 : its[i]? = some x' := by simpa using h1
        rw [hu] at h2
        exact (Option.some.inj h2).symm
      subst ex
      refine ⟨_, rfl, wpAny_letOwnedTupleGo_enum (s := { s with heap := h', toks := tk + 1 }) ho fun h'' he' sb => ?_⟩
      have hT2 : h''.get? s.heap.objs.size = some { cls := .type "tuple", data := .seq #[.int i tk, x'] } := (sb.2 _ (Nat.ne_of_gt hel)).trans hT
      have new : ObjOk X.prog X.w (upd H s.heap.objs.size (.tup [.int (i : Nat), x])) h'' s.heap.objs.size (.tup [.int (i : Nat), x]) :=
        ⟨by show 2 ≤ sizeLine; decide, [.int i tk, x'], .cons ⟨_, rfl⟩ (.cons ru .nil), _, hT2, rfl, _, rfl⟩
      have I1 : Inv X pins σ (upd H s.heap.objs.size (.tup [.int (i : Nat), x])) { s with heap := h'', toks := tk + 1 } :=
        I.turnedNew (ch := [e, it]) (fun b ob hb q => (sb.2 b fun z => hb (by simp [z])).trans (hk b ob (fun z => hb (by simp [z])) (fun z => hb (by simp [z])) q)) hf (Nat.le_refl _) new
      refine ⟨V.ref s.heap.objs.size, _, I1, rfl, ⟨_, x, rfl, I.hok.fresh (Nat.le_refl _), rfl, fun ys hy => ?_⟩, ⟨⟨x', ?_⟩, hst'.1.at fun o q => (sb.2 it (Ne.symm ne)).trans q, ne⟩, fun b hb => ?_⟩
      · rw [I.tuple_inj hy hq]
        exact hx
      · rw [show ((i + 1 : Nat) : Int) = (i : Int) + 1 by omega]
        exact he'
      · have hb' : b < s.heap.objs.size := by
          rcases List.mem_cons.mp hb with z | z
          · rw [z]; exact hel
          · rw [List.mem_singleton.mp z]; exact hil
        rw [upd_ne (Nat.ne_of_lt hb')]
        exact (hf b hb).1
  done := by
    intro X eP eW eK hcalm i pins s σ H E I hf st hg
    subst eP eW eK
    obtain ⟨⟨old, he⟩, hit, ne⟩ := st
    obtain ⟨xs, hq, hx⟩ := hg
    obtain ⟨its, rv, p, _⟩ := I.tuple hq
    obtain ⟨f0, f1, f2, f3, f4, f5⟩ := hf it (List.mem_cons_of_mem _ List.mem_cons_self)
    have pt : s.heap.IsTuple a its.toArray := p
    have nea : a ≠ it := fun z => by
      obtain ⟨o1, q1, c1, _⟩ := hit
      obtain ⟨o2, q2, c2, _⟩ := pt
      rw [z, q1] at q2
      cases q2
      rw [c1] at c2
      exact absurd c2 (by simp)
    have hl : its.toArray.size = i := by
      rw [List.size_toArray, ← rv.length]
      exact hx
    subst hl
    exact wpAny_pyNext_enum_endD (Draws.tuple (prog := X.prog) (w := X.w) (A := X.A.in1) (I.ok.hd hcalm) it a nea its.toArray) he ⟨hit, pt⟩ fun h' eb => ⟨rfl, I.turned (t' := s.toks) (fun b o hb q => eb b o hb q) f0 f1 f3 f4 f5⟩
  self := fun A i s Q E st h => by
    obtain ⟨⟨_, he⟩, _⟩ := st
    exact wpAny_pyIter_enum he h
def iEnT (K : PySem.W.Frag) (ta : TA) : TI := fun σ H R => ta σ H fun vs H1 => ∃ a xs, vs = [.ref a] ∧ SqT K H1 a xs ∧ R (ItE K a) H1
theorem pi_enumT {X : Cx} {e : Expr} {ta : TA} {p pos tpos : Pos} {elts : List Expr} {kk : Nat} (hg : Gl X "enumerate") (hm : X.mg "enumerate" = none) (ha : PA X [e] ta)
    (hs : starEach [e] X.env = [(false, eval e X.env)] := by rfl) : PI X (.Tuple elts kk tpos) (.Call (.Name "enumerate" p) [e] [] pos) (iEnT X.K ta) := by
  refine ⟨fun pins s σ H R I h => ?_⟩
  refine Call_ (ld_blt I hg hm boot_enumerate ?_)
  refine PyProof.Rows.callWith_type1 (thn (ha.run pos pins s σ H _ I h) fun us s1 z => ?_) hs rfl
  obtain ⟨vs, H1, I1, r1, a, xs, ex, hq, q⟩ := z
  subst ex
  cases r1 with
  | cons r rr =>
    cases rr
    cases r
    obtain ⟨its, rv, p', _⟩ := I1.tuple hq
    refine CkE.call1 (begins_tuple a its.toArray) (show s1.heap.IsTuple a its.toArray from p') fun h' he hit hk => wpAny_pyIter_enum he ?_
    refine ⟨s1.heap.objs.size + 1, [s1.heap.objs.size + 1, s1.heap.objs.size], _, _, H1, rfl, I1.kept (t' := s1.toks) hk, turn_enumT a (s1.heap.objs.size + 1) s1.heap.objs.size, ⟨⟨.none, he⟩, ⟨_, hit, rfl, rfl⟩, Nat.succ_ne_self _⟩, fun b hb => ?_, q⟩
    have hle : s1.heap.objs.size ≤ b := by
      rcases List.mem_cons.mp hb with z | z
      · rw [z]; exact Nat.le_succ _
      · rw [List.mem_singleton.mp z]; exact Nat.le_refl _
    exact I1.fpOk hle (I1.hok.fresh hle)
theorem walk_enumT {K : PySem.W.Frag} {a : Addr} {xs : List V} : Walk (ItE K a) xs.length (fun H => SqT K H a xs) (YPair (fun i => some (.int (i : Nat))) (fun i => xs[i]?)) where
  goes i _ hi q := ⟨xs, xs[i], q, by simp [hi]⟩
  stops _ q := ⟨xs, q, rfl⟩
  yields i H v H' _ q y := by
    obtain ⟨T, x, h1, h2, h3, h4⟩ := y
    exact ⟨T, .int (i : Nat), x, h1, h2, h3, rfl, h4 xs q⟩
end L2

namespace L2
open PySem PySem.Spec PyProof.Rows
abbrev NK := List Int × Bool
def nkey (k : NK) : NestedKey := .tup [.tup (k.1.map NestedKey.num), .num (if k.2 = true then 1 else 0)]
theorem numInj : ∀ {a b : List Int}, a.map NestedKey.num = b.map NestedKey.num → a = b
  | [], [], _ => rfl
  | [], _ :: _, h => by simp at h
  | _ :: _, [], h => by simp at h
  | x :: xs, y :: ys, h => by
    rw [List.map_cons, List.map_cons] at h
    injection h with h1 h2
    injection h1 with h1
    rw [h1, numInj h2]
theorem nkey_inj {a b : NK} (h : nkey a = nkey b) : a = b := by
  obtain ⟨s, c⟩ := a
  obtain ⟨t, d⟩ := b
  unfold nkey at h
  injection h with h
  injection h with h1 h2
  injection h1 with h1
  injection h2 with h2 _
  injection h2 with h2
  have e1 : s = t := numInj h1
  have e2 : c = d := by cases c <;> cases d <;> simp at h2 <;> rfl
  rw [e1, e2]
theorem nkey_depth (k : NK) : (nkey k).depth ≤ 8 := by
  have z : ∀ l : List Int, NestedKey.depthAll (l.map NestedKey.num) = 0 := by
    intro l
    induction l with
    | nil => simp [NestedKey.depthAll]
    | cons x r ih => rw [List.map_cons, NestedKey.depthAll, ih]; simp [NestedKey.depth]
  simp [nkey, NestedKey.depth, NestedKey.depthAll, z]
abbrev NEnt := NK × Addr × V
def nget (xs : List NEnt) (k : NK) : Option V := (xs.find? fun e => decide (e.1 = k)).map fun e => e.2.2
def nput (xs : List NEnt) (k : NK) (p : Addr) (v : V) : List NEnt :=
  if (nget xs k).isSome = true then xs.map (fun e => if e.1 = k then (e.1, e.2.1, v) else e) else xs ++ [(k, p, v)]
abbrev NRel : NEnt → NestedKey × Addr × Value → Prop := fun e y => y.1 = nkey e.1 ∧ y.2.1 = e.2.1 ∧ RelV e.2.2 y.2.2
def NDo (P : Program) (w : World) (a : Addr) (xs : List NEnt) : HO := .ext fun h => (a == sysModules) = false ∧ ∃ ys, Paired NRel xs ys ∧
  ∃ o es ep, h.get? a = some o ∧ o.ExactDict ∧ o.data = .dict es ep ∧ es.toList = ys.map (entryOfKey (nestedKind P w))
def NKAt (H : Hp) (k : NK) (p : Addr) : Prop := ∃ s, H p = some (.tup [.ref s, .bl k.2]) ∧ H s = some (.tup (k.1.map V.int))
def ND (P : Program) (w : World) (H : Hp) (a : Addr) (xs : List NEnt) : Prop :=
  H a = some (NDo P w a xs) ∧ xs.length ≤ sizeLine ∧ (xs.map (·.1)).Nodup ∧ ∀ e ∈ xs, NKAt H e.1 e.2.1
theorem NDo_ok {P : Program} {w : World} {H : Hp} {h : Heap} {a : Addr} {xs : List NEnt} {ys : List (NestedKey × Addr × Value)} (ha : (a == sysModules) = false) (r : Paired NRel xs ys)
    (q : ∃ o es ep, h.get? a = some o ∧ o.ExactDict ∧ o.data = .dict es ep ∧ es.toList = ys.map (entryOfKey (nestedKind P w))) : ObjOk P w H h a (NDo P w a xs) := by
  obtain ⟨o, es, ep, ho, q1, q2, q3⟩ := q
  refine ⟨⟨ha, ys, r, o, es, ep, ho, q1, q2, q3⟩, ⟨o, ho⟩, fun h1 h2 ⟨z1, zs, z2, z3⟩ k => ?_⟩
  obtain ⟨o', es', ep', ho', r1, r2, r3⟩ := z3
  exact ⟨z1, zs, z2, o', es', ep', k _ ho', r1, r2, r3⟩
theorem nall_ints {h : Heap} : ∀ {l : List Int} {us : List Value}, Vals (l.map V.int) us → NestedAll h (l.map NestedKey.num) us
  | [], _, r => by cases r; exact .nil
  | i :: l, _, r => by
    rw [List.map_cons] at r
    cases r with
    | cons a b =>
      obtain ⟨t, rfl⟩ := a
      exact .cons (.int i t) (nall_ints b)
section
variable {X : Cx} {pins : List (Addr × Obj)} {σ : St} {H : Hp} {s : Shared} {a p : Addr} {k : NK} {xs : List NEnt}
theorem nk_is (I : Inv X pins σ H s) (h : NKAt H k p) : (nestedKind X.prog X.w).is s.heap (nkey k) p := by
  obtain ⟨q, h1, h2⟩ := h
  obtain ⟨its, r1, ⟨o1, e1, c1, n1, d1⟩, _⟩ := I.tuple (SqT.of h1)
  obtain ⟨jts, r2, ⟨o2, e2, c2, n2, d2⟩, _⟩ := I.tuple (SqT.of h2)
  refine ⟨?_, nkey_depth k⟩
  refine .tup e1 c1 d1 ?_
  rw [List.toList_toArray]
  cases r1 with
  | cons a b =>
    cases b with
    | cons a' b' =>
      cases b'
      cases a
      cases a'
      refine .cons (.tup e2 c2 d2 ?_) (.cons (.bool rfl) .nil)
      rw [List.toList_toArray]
      exact nall_ints r2
theorem nrel_keys : ∀ {xs : List NEnt} {ys : List (NestedKey × Addr × Value)}, Paired NRel xs ys → ys.map (·.1) = (xs.map (·.1)).map nkey
  | _, _, .nil => rfl
  | _, _, .cons r t => by
    rw [List.map_cons, List.map_cons, List.map_cons, nrel_keys t, r.1]
theorem nd_inj {α β : Type} {f : α → β} (hf : ∀ a b, f a = f b → a = b) {l : List α} (h : l.Nodup) : (l.map f).Nodup := by
  refine List.pairwise_map.mpr (h.imp fun n e => n (hf _ _ e))
theorem nd_of (I : Inv X pins σ H s) (h : ND X.prog X.w H a xs) : (a == sysModules) = false ∧ ∃ ys, Paired NRel xs ys ∧ s.heap.DictOfH (nestedKind X.prog X.w) a ys := by
  obtain ⟨h1, h2, h3, h4⟩ := h
  obtain ⟨⟨z, ys, r, o, es, ep, q1, q2, q3, q4⟩, _⟩ := (show ObjOk X.prog X.w H s.heap a (NDo X.prog X.w a xs) from I.hok a _ h1)
  refine ⟨z, ys, r, o, es, ep, q1, q2, q3, q4, ?_, ?_⟩
  · have all : ∀ {l : List NEnt} {m : List (NestedKey × Addr × Value)}, Paired NRel l m → (∀ e ∈ l, NKAt H e.1 e.2.1) → ∀ y ∈ m, (nestedKind X.prog X.w).is s.heap y.1 y.2.1 := by
      intro l m q
      induction q with
      | nil => intro _ y hy; cases hy
      | @cons e y l m hq t ih =>
        intro hl y' hy
        rcases List.mem_cons.mp hy with z | hy
        · subst z
          rw [hq.1, hq.2.1]
          exact nk_is I (hl e List.mem_cons_self)
        · exact ih (fun e he => hl e (List.mem_cons_of_mem _ he)) y' hy
    exact all r h4
  · rw [nrel_keys r]
    exact nd_inj (fun _ _ e => nkey_inj e) h3
theorem ngetRel : ∀ {xs : List NEnt} {ys : List (NestedKey × Addr × Value)}, Paired NRel xs ys → ∀ k, RelO (nget xs k) ((atKey ys (nkey k)).map (·.2))
  | _, _, .nil, _ => True.intro
  | _, _, .cons (b := y) (a := e) r t, k => by
    have ih := ngetRel t k
    by_cases q : e.1 = k
    · have a1 : ∀ l, nget (e :: l) k = some e.2.2 := fun l => by simp [nget, List.find?_cons, q]
      have a2 : ∀ l, atKey (y :: l) (nkey k) = some y.2 := fun l => by simp [atKey, List.find?_cons, r.1, q]
      rw [a1, a2]
      exact r.2.2
    · have n1 : ¬ y.1 = nkey k := fun z => q (nkey_inj (r.1.symm.trans z))
      have a1 : ∀ l, nget (e :: l) k = nget l k := fun l => by simp [nget, List.find?_cons, q]
      have a2 : ∀ l, atKey (y :: l) (nkey k) = atKey l (nkey k) := fun l => by simp [atKey, List.find?_cons, n1]
      rw [a1, a2]
      exact ih
theorem nputRel {xs : List NEnt} {ys : List (NestedKey × Addr × Value)} (r : Paired NRel xs ys) (k : NK) (p : Addr) {v : V} {u : Value} (rv : RelV v u) : Paired NRel (nput xs k p v) (storedH ys (nkey k) p u) := by
  have e := (ngetRel r k).isSome_eq
  rw [Option.isSome_map] at e
  unfold nput storedH
  rw [e]
  by_cases q : (atKey ys (nkey k)).isSome = true
  · rw [if_pos q, if_pos q]
    clear q e
    induction r with
    | nil => exact .nil
    | @cons e y l m h t ih =>
      rw [List.map_cons, List.map_cons]
      refine .cons ?_ ih
      unfold putAt
      by_cases z : e.1 = k
      · rw [if_pos z, if_pos (by rw [h.1, z])]
        exact ⟨h.1, h.2.1, rv⟩
      · rw [if_neg z, if_neg (fun z' => z (nkey_inj (h.1.symm.trans z')))]
        exact h
  · rw [if_neg q, if_neg q]
    exact Paired.snoc r ⟨rfl, rfl, rv⟩
theorem nput_keys (xs : List NEnt) (k : NK) (p : Addr) (v : V) : (nput xs k p v).map (·.1) = if (nget xs k).isSome = true then xs.map (·.1) else xs.map (·.1) ++ [k] := by
  unfold nput
  split
  · rw [List.map_map]
    refine List.map_congr_left fun e _ => ?_
    show (if e.1 = k then (e.1, e.2.1, v) else e).1 = e.1
    split <;> rfl
  · rw [List.map_append]
    rfl
theorem nget_none {xs : List NEnt} {k : NK} (h : ¬ (nget xs k).isSome = true) : k ∉ xs.map (·.1) := by
  intro hm
  obtain ⟨e, he, ek⟩ := List.mem_map.mp hm
  apply h
  unfold nget
  rw [Option.isSome_map, List.find?_isSome]
  exact ⟨e, he, decide_eq_true ek⟩
theorem nget_mem {xs : List NEnt} {k : NK} {v : V} (h : nget xs k = some v) : ∃ p, (k, p, v) ∈ xs := by
  unfold nget at h
  obtain ⟨e, he, ev⟩ := Option.map_eq_some_iff.mp h
  have h1 := List.find?_some he
  have h2 := List.mem_of_find?_eq_some he
  obtain ⟨e1, e2, e3⟩ := e
  have h1' : e1 = k := of_decide_eq_true h1
  subst h1'
  have ev' : e3 = v := ev
  subst ev'
  exact ⟨e2, h2⟩
theorem nget_put (xs : List NEnt) (k : NK) (p : Addr) (v : V) : nget (nput xs k p v) k = some v := by
  unfold nput
  by_cases h : (nget xs k).isSome = true
  · rw [if_pos h]
    induction xs with
    | nil => simp [nget] at h
    | cons e l ih =>
      rw [List.map_cons]
      by_cases q : e.1 = k
      · simp [nget, List.find?_cons, q]
      · have a1 : ∀ l, nget (e :: l) k = nget l k := fun l => by simp [nget, List.find?_cons, q]
        rw [a1] at h
        rw [if_neg q, a1]
        exact ih h
  · rw [if_neg h]
    have hn : ∀ l : List NEnt, (∀ e ∈ l, ¬ e.1 = k) → nget (l ++ [(k, p, v)]) k = some v := by
      intro l
      induction l with
      | nil => intro _; simp [nget]
      | cons e l ih =>
        intro hl
        have q := hl e List.mem_cons_self
        rw [List.cons_append]
        have a1 : ∀ l, nget (e :: l) k = nget l k := fun l => by simp [nget, List.find?_cons, q]
        rw [a1]
        exact ih fun e he => hl e (List.mem_cons_of_mem _ he)
    exact hn xs fun e he ek => nget_none h (List.mem_map.mpr ⟨e, he, ek⟩)
theorem nput_mem {xs : List NEnt} {k : NK} {p : Addr} {v : V} {e : NEnt} (h : e ∈ nput xs k p v) : (e ∈ xs) ∨ (e.1 = k ∧ e.2.2 = v ∧ (e.2.1 = p ∨ ∃ e' ∈ xs, e'.1 = k ∧ e'.2.1 = e.2.1)) := by
  unfold nput at h
  split at h
  · obtain ⟨e', he', q⟩ := List.mem_map.mp h
    by_cases z : e'.1 = k
    · rw [if_pos z] at q
      subst q
      exact .inr ⟨z, rfl, .inr ⟨e', he', z, rfl⟩⟩
    · rw [if_neg z] at q
      subst q
      exact .inl he'
  · rcases List.mem_append.mp h with h | h
    · exact .inl h
    · rw [List.mem_singleton.mp h]
      exact .inr ⟨rfl, rfl, .inl rfl⟩
theorem nput_len (xs : List NEnt) (k : NK) (p : Addr) (v : V) : (nput xs k p v).length ≤ xs.length + 1 := by
  unfold nput
  split
  · rw [List.length_map]; omega
  · rw [List.length_append]; simp
theorem nput_nd {xs : List NEnt} {k : NK} (p : Addr) (v : V) (h : (xs.map (·.1)).Nodup) : ((nput xs k p v).map (·.1)).Nodup := by
  rw [nput_keys]
  split
  · exact h
  · rename_i q
    exact List.nodup_append.mpr ⟨h, List.nodup_cons.mpr ⟨by simp, List.nodup_nil⟩, fun a ha b hb e => nget_none q (by rw [List.mem_singleton.mp hb] at e; exact e ▸ ha)⟩
theorem NKAt.keep {H H' : Hp} {k : NK} {p : Addr} (h : NKAt H k p) (t : ∀ b xs, H b = some (.tup xs) → H' b = some (.tup xs)) : NKAt H' k p := by
  obtain ⟨q, h1, h2⟩ := h
  exact ⟨q, t _ _ h1, t _ _ h2⟩
theorem ND.put {P : Program} {w : World} {H : Hp} {a p : Addr} {k : NK} {v : V} {xs : List NEnt} (h : ND P w H a xs) (hk : NKAt H k p) (hl : xs.length < sizeLine) : ND P w (upd H a (NDo P w a (nput xs k p v))) a (nput xs k p v) := by
  obtain ⟨h1, h2, h3, h4⟩ := h
  have t : ∀ b ys, H b = some (.tup ys) → upd H a (NDo P w a (nput xs k p v)) b = some (.tup ys) := fun b ys e => by
    rw [upd_ne (ne_of e h1 (fun z => nomatch z))]
    exact e
  refine ⟨upd_same, Nat.le_trans (nput_len ..) hl, nput_nd p v h3, fun e he => ?_⟩
  rcases nput_mem he with q | ⟨q1, _, q2⟩
  · exact (h4 e q).keep t
  · rcases q2 with q2 | ⟨e', he', q3, q4⟩
    · rw [q1, q2]; exact hk.keep t
    · have z : NKAt H e.1 e.2.1 := by
        rw [q1, ← q3, ← q4]
        exact h4 e' he'
      exact z.keep t
def tNNotIn (P : Program) (w : World) (ty td : TE) : TE := fun σ H Q => ty σ H fun y H1 => td σ H1 fun x H2 => ∃ a p k xs, x = .ref a ∧ y = .ref p ∧ ND P w H2 a xs ∧ NKAt H2 k p ∧ Q (.bl (!(nget xs k).isSome)) H2
def tNGet (P : Program) (w : World) (td ty : TE) : TE := fun σ H Q => td σ H fun x H1 => ty σ H1 fun y H2 => ∃ a p k xs v, x = .ref a ∧ y = .ref p ∧ ND P w H2 a xs ∧ NKAt H2 k p ∧ nget xs k = some v ∧ Q v H2
def sNPut (P : Program) (w : World) (td ty tv : TE) : TS := fun D σ H => tv σ H fun v H1 => td σ H1 fun x H2 => ty σ H2 fun y H3 => ∃ a p k xs, x = .ref a ∧ y = .ref p ∧ ND P w H3 a xs ∧ NKAt H3 k p ∧ xs.length < sizeLine ∧ D.nx σ (upd H3 a (NDo P w a (nput xs k p v)))
def tNNew (P : Program) (w : World) : TE := fun _ H Q => ∀ p, H p = none → Q (.ref p) (upd H p (NDo P w p []))
theorem nroom {A : Around} (hu : A.units + 64 < cLine) {P : Program} {w : World} : (nestedKind P w).room A.in1 := by
  show A.units + 1 + 8 < cLine
  omega
theorem pc_nnotin {o i : Expr} {td ty : TE} (hu : X.A.units + 64 < cLine) (hi : PE X i ty) (ho : PE X o td) : PC X .NotIn i o (tNNotIn X.prog X.w ty td) := by
  refine ⟨fun pins s σ H Q I h => ?_⟩
  refine thn (hi.run pins s σ H _ I h) fun iv s1 ⟨y, H1, I1, ry, q1⟩ => thn (ho.run pins s1 σ H1 _ I1 q1) fun u s2 ⟨x, H2, I2, rx, a, p, k, xs, ex, ey, hd, hk, q2⟩ => ?_
  subst ex ey
  obtain rfl : u = Value.ref a := rx
  obtain rfl : iv = Value.ref p := ry
  obtain ⟨z, ys, r, dd⟩ := nd_of I2 hd
  refine wpAny_notIn_heap (nroom hu) (nk_is I2 hk) z dd ?_
  have e := (ngetRel r k).isSome_eq
  rw [Option.isSome_map] at e
  rw [← e]
  exact ⟨.bl _, H2, I2.tok _, rfl, q2⟩
theorem pe_nget {o i : Expr} {td ty : TE} {pos : Pos} (hu : X.A.units + 64 < cLine) (ho : PE X o td) (hi : PE X i ty) (hs : NoSl i) : PE X (.Subscript o i pos) (tNGet X.prog X.w td ty) := by
  refine ⟨fun pins s σ H Q I h => ?_⟩
  refine subD_of PySem.F.slot_dict_getitem.lookup hs ?_
  refine thn (ho.run pins s σ H _ I h) fun u s1 ⟨x, H1, I1, rx, q1⟩ => thn (hi.run pins s1 σ H1 _ I1 q1) fun iv s2 ⟨y, H2, I2, ry, a, p, k, xs, v, ex, ey, hd, hk, hg, q2⟩ => ?_
  subst ex ey
  obtain rfl : u = Value.ref a := rx
  obtain rfl : iv = Value.ref p := ry
  obtain ⟨z, ys, r, dd⟩ := nd_of I2 hd
  obtain ⟨u', hu', ru⟩ := RelO.some_of (v := v) (o := (atKey ys (nkey k)).map (·.2)) (by rw [← hg]; exact ngetRel r k)
  obtain ⟨pp, hp, hp2⟩ := Option.map_eq_some_iff.mp hu'
  refine ⟨dd.typeIs, wpAny_getItem_heap (nroom hu) (nk_is I2 hk) dd hp ?_⟩
  rw [hp2]
  exact ⟨v, H2, I2.tok _, ru, q2⟩
theorem ps_nput {o i value : Expr} {td ty tv : TE} {pos pos' : Pos} (hu : X.A.units + 64 < cLine) (ho : PE X o td) (hi : PE X i ty) (hv : PE X value tv) (hs : swapsWith value (some (.Subscript o i pos')) pos.line X.env = pure false) :
    PS X (.Assign [.Subscript o i pos'] value pos) (sNPut X.prog X.w td ty tv) := by
  refine ⟨fun pins s σ H D I h => ?_⟩
  refine wpAny_Assign_Subscript ?_ hs
  refine thn (hv.run pins s σ H _ I h) fun r s1 ⟨v, H1, I1, rv, q1⟩ => thn (ho.run pins s1 σ H1 _ I1 q1) fun u s2 ⟨x, H2, I2, rx, q2⟩ => thn (hi.run pins s2 σ H2 _ I2 q2) fun iv s3 ⟨y, H3, I3, ry, a, p, k, xs, ex, ey, hd, hk, hl, q3⟩ => ?_
  subst ex ey
  obtain rfl : u = Value.ref a := rx
  obtain rfl : iv = Value.ref p := ry
  obtain ⟨z, ys, rr, dd⟩ := nd_of I3 hd
  have hyl : ys.length ≤ sizeLine := by
    rw [← Paired.length rr]
    exact Nat.le_of_lt hl
  refine wpAny_setItem_heap (hsz := hyl) (nroom hu) (nk_is I3 hk) dd fun h' dd' hs' => ?_
  obtain ⟨oo, es, ep, g1, g2, g3, g4, _, _⟩ := dd'
  have J := d_write (t' := s3.toks + (nestedKind X.prog X.w).draws (nkey k)) I3 (ob := NDo X.prog X.w a (nput xs k p v)) (by rw [hd.1]; exact True.intro) hs' ⟨oo, g1⟩ (NDo_ok z (nputRel rr k p rv) ⟨oo, es, ep, g1, g2, g3, g4⟩)
  exact ⟨σ, _, J, q3⟩
theorem pe_nnew {pos : Pos} : PE X (.Dict [] [] pos) (tNNew X.prog X.w) := by
  refine ⟨fun pins s σ H Q I h => ?_⟩
  have ne : (s.heap.objs.size == sysModules) = false := beq_eq_false_iff_ne.mpr (Ne.symm (Nat.ne_of_lt I.big))
  have ok : ObjOk X.prog X.w (upd H s.heap.objs.size (NDo X.prog X.w s.heap.objs.size [])) (s.heap.push { cls := .type "dict", data := .dict #[] }) s.heap.objs.size (NDo X.prog X.w s.heap.objs.size []) :=
    NDo_ok ne .nil ⟨_, #[], 0, Heap.get?_push_size _ rfl, ⟨rfl, rfl, rfl⟩, rfl, rfl⟩
  exact wpAny_Dict_empty ⟨.ref s.heap.objs.size, _, I.laid (t' := s.toks) (fun _ _ q => Heap.get?_push_of_some _ q) (Nat.le_refl _) ok, rfl, h _ (I.hok.fresh (Nat.le_refl _))⟩
theorem ND.new {P : Program} {w : World} {H : Hp} {p : Addr} : ND P w (upd H p (NDo P w p [])) p [] :=
  ⟨upd_same, Nat.zero_le _, List.nodup_nil, fun e he => by cases he⟩
end
end L2

namespace Ck
theorem lle_total : ∀ a b : List Int, lle a b = false → lle b a = true
  | [], _, h => by simp [lle] at h
  | _ :: _, [], _ => rfl
  | x :: xs, y :: ys, h => by
    unfold lle at h ⊢
    by_cases e : x = y
    · rw [if_pos e] at h
      rw [if_pos e.symm]
      exact lle_total xs ys h
    · rw [if_neg e, decide_eq_false_iff_not] at h
      rw [if_neg (fun z => e z.symm), decide_eq_true_eq]
      omega
theorem lle_trans : ∀ a b c : List Int, lle a b = true → lle b c = true → lle a c = true
  | [], _, _, _, _ => by simp [lle]
  | _ :: _, [], _, h, _ => by simp [lle] at h
  | _ :: _, _ :: _, [], _, h => by simp [lle] at h
  | x :: xs, y :: ys, z :: zs, h, k => by
    unfold lle at h k ⊢
    by_cases e : x = y
    · rw [if_pos e] at h
      by_cases f : y = z
      · rw [if_pos f] at k
        rw [if_pos (e.trans f)]
        exact lle_trans xs ys zs h k
      · rw [if_neg f, decide_eq_true_eq] at k
        rw [if_neg (by omega), decide_eq_true_eq]
        omega
    · rw [if_neg e, decide_eq_true_eq] at h
      by_cases f : y = z
      · rw [if_neg (by omega), decide_eq_true_eq]
        omega
      · rw [if_neg f, decide_eq_true_eq] at k
        rw [if_neg (by omega), decide_eq_true_eq]
        omega
theorem lt_lle : ∀ a b : List Int, HT.lexLt a b = !lle b a
  | [], [] => rfl
  | [], _ :: _ => rfl
  | _ :: _, [] => rfl
  | x :: xs, y :: ys => by
    rw [HT.lexLt_cons]
    unfold lle
    by_cases e : x = y
    · rw [if_pos e, if_pos e.symm]
      exact lt_lle xs ys
    · rw [if_neg e, if_neg (fun z => e z.symm), ← decide_not]
      exact decide_eq_decide.mpr (by omega)
end Ck
namespace CkS
open PySem PyProof.Rows SrtO
def TI (h : Heap) (v : Value) (S : List Int) : Prop := ∃ a o us n, v = .ref a ∧ h.get? a = some o ∧ o.cls = .type "tuple" ∧ o.data = .seq us n ∧ IntsAre us.toList S
theorem TI.keep {h h' : Heap} {v : Value} {S : List Int} (x : TI h v S) (k : ∀ b o, h.get? b = some o → o.cls = .type "tuple" → h'.get? b = some o) : TI h' v S := by
  obtain ⟨a, o, us, n, e, ho, hc, hd, hi⟩ := x
  exact ⟨a, o, us, n, e, k a o ho hc, hc, hd, hi⟩
def ltS (k : Value → List Int) (v u : Value) : Bool := HT.lexLt (k v) (k u)
theorem swoS (k : Value → List Int) : Swo (ltS k) := by
  refine ⟨fun x y h => ?_, fun x y z h1 h2 => ?_⟩
  · unfold ltS at h ⊢
    rw [Ck.lt_lle] at h ⊢
    have e : Ck.lle (k y) (k x) = false := by simpa using h
    rw [Ck.lle_total _ _ e]
    rfl
  · unfold ltS at h1 h2 ⊢
    rw [Ck.lt_lle] at h1 h2 ⊢
    have e1 : Ck.lle (k x) (k y) = true := by simpa using h1
    have e2 : Ck.lle (k y) (k z) = true := by simpa using h2
    rw [Ck.lle_trans _ _ _ e1 e2]
    rfl
section
variable {prog : Program} {w : World} {A : Around} {E : Value → Shared → Prop} {s : Shared} {vs : List Value} {k : Value → List Int}
theorem katI {b fin : Bool} {Q : Bool → Shared → Prop} {n1 n2 : Nat} (hf : fin = decide (n1 < n2)) : ∀ (xs ys : List Int) (us ws : List Value) (i : Nat), IntsAre us xs → IntsAre ws ys → xs.length + n2 = ys.length + n1 → Q (HT.lexLt xs ys) s →
    PySem.W.KatLex prog w A b fin Q (us.zip ws) i s
  | [], [], _, _, _, .nil, .nil, hl, h => by
    have e : fin = false := by
      rw [hf]
      simp only [List.length_nil] at hl
      exact decide_eq_false (by omega)
    rw [List.zip_nil_left]
    refine PySem.W.kat_nil ?_
    rw [e]
    exact h
  | [], y :: ys, _, _, _, .nil, .cons _ _ _, hl, h => by
    have e : fin = true := by
      rw [hf]
      simp only [List.length_nil, List.length_cons] at hl
      exact decide_eq_true (by omega)
    rw [List.zip_nil_left]
    refine PySem.W.kat_nil ?_
    rw [e]
    exact h
  | x :: xs, [], _, _, _, .cons _ _ _, .nil, hl, h => by
    have e : fin = false := by
      rw [hf]
      simp only [List.length_nil, List.length_cons] at hl
      exact decide_eq_false (by omega)
    rw [List.zip_nil_right]
    refine PySem.W.kat_nil ?_
    rw [e]
    exact h
  | x :: xs, y :: ys, _, _, i, .cons _ t r1, .cons _ t' r2, hl, h => by
    rw [List.zip_cons_cons]
    rw [HT.lexLt_cons] at h
    refine PySem.W.kat_cons (SeqAt.EqAt.int_int x t y t' prog w _ _ ?_)
    refine PySem.W.kat_go (fun e1 => ?_) (fun e1 => ?_)
    · have ex : x = y := by simpa using e1
      rw [if_pos ex] at h
      simp only [List.length_cons] at hl
      exact PySem.W.kat_yes (katI hf xs ys _ _ _ r1 r2 (by omega) h)
    · have ex : ¬ x = y := by simpa using e1
      rw [if_neg ex] at h
      exact PySem.W.kat_no (oneLt_any_int h)
theorem cmpT (hp : ∀ v ∈ vs, TI s.heap v (k v)) : Cmp prog w A s (tuples' true) (fun p => p.1 ∈ vs) (lt2 (ltS k)) := by
  intro p q hm hm'
  show wpAny (model prog w) A (keyLt' (tuples' true) p.1 q.1) (fun r s' => s' = s ∧ r = HT.lexLt (k p.1) (k q.1)) (fun _ _ => False) s
  obtain ⟨a, o, us, n, e, ho, hc, hd, hi⟩ := hp _ hm
  obtain ⟨a', o', us', n', e', ho', hc', hd', hi'⟩ := hp _ hm'
  generalize k p.1 = S at hi ⊢
  generalize k q.1 = T at hi' ⊢
  rw [e, e']
  refine PySem.W.kat_lt ho hd ho' hd' ?_
  have l1 := hi.length
  have l2 := hi'.length
  rw [Array.length_toList] at l1 l2
  exact katI (n1 := us.size) (n2 := us'.size) rfl S T us.toList us'.toList 0 hi hi' (by omega) ⟨rfl, rfl⟩
theorem cmpO (hu : A.units < cLine) (hp : ∀ v ∈ vs, TI s.heap v (k v)) : Cmp prog w A s oneType' (fun p => p.1 ∈ vs) (lt2 (ltS k)) := by
  intro p q hm hm'
  show wpAny (model prog w) A (keyLt' oneType' p.1 q.1) (fun r s' => s' = s ∧ r = HT.lexLt (k p.1) (k q.1)) (fun _ _ => False) s
  obtain ⟨a, ⟨cls, dd, data, sl⟩, us, n, e, ho, hc, hd, hi⟩ := hp _ hm
  obtain ⟨a', ⟨cls', dd', data', sl'⟩, us', n', e', ho', hc', hd', hi'⟩ := hp _ hm'
  generalize k p.1 = S at hi ⊢
  generalize k q.1 = T at hi' ⊢
  simp only at hc hd hc' hd'
  subst hc hd hc' hd'
  rw [e, e', keyLt'_oneType, oneLt'_eq]
  simp only [if_true]
  refine wpAny_bind (wpAny_cRoomFor_or (.inr hu) ?_)
  refine wpAny_bind (wpAny_callSpecialIfBound?_slot (T := "tuple") ⟨_, ho, rfl⟩ F.slot_tuple_lt ?_)
  refine call_meets F.slot_tuple_lt ⟨_, ho, rfl⟩ F.entry_tuple_lt (F.args_tuple_lt_2 _ _) (HT.tuple_lt_ints a a' us us' n n' dd dd' sl sl' S T hi hi') ⟨ho, ho', ?_⟩
  exact wpAny_truthy_bool ⟨rfl, rfl⟩
theorem firsts_TI : ∀ {vs : List Value}, (∀ v ∈ vs, TI s.heap v (k v)) → (∀ v ∈ vs, k v ≠ []) → ∃ fs, PySem.W.KatTups s.heap vs fs ∧ fs.length = vs.length ∧ ∀ f ∈ fs, ∃ i t, f = Value.int i t
  | [], _, _ => ⟨[], PySem.W.KatTups.nil, rfl, fun f hf => by cases hf⟩
  | v :: vs, hp, hn => by
    obtain ⟨fs, h1, h2, h3⟩ := firsts_TI (vs := vs) (fun u hu => hp u (List.mem_cons_of_mem _ hu)) fun u hu => hn u (List.mem_cons_of_mem _ hu)
    have hv := hp v List.mem_cons_self
    have nv := hn v List.mem_cons_self
    obtain ⟨a, o, us, n, e, ho, hc, hd, hi⟩ := hv
    generalize k v = S at hi nv
    cases S with
    | nil => exact absurd rfl nv
    | cons x r =>
      generalize hus : us.toList = l at hi
      cases hi with
      | cons _ t r' =>
        have hf : us[0]? = some (.int x t) := by
          rw [← Array.getElem?_toList, hus]
          rfl
        subst e
        refine ⟨.int x t :: fs, PySem.W.KatTups.cons ho hc hd hf h1, by rw [List.length_cons, List.length_cons, h2], fun f hm => ?_⟩
        rcases List.mem_cons.mp hm with z | hm
        · exact ⟨x, t, z⟩
        · exact h3 f hm
theorem typeOf_TI {M : Model} {v : Value} {S : List Int} (h : TI s.heap v S) : PySem.W.Looks M s.heap (typeOf v) (.type "tuple") := by
  obtain ⟨a, o, us, n, e, ho, hc, hd, hi⟩ := h
  subst e
  exact hc ▸ (PySem.W.Looks.ld ho).andThen .now
theorem mapM_some {α β : Type} {M : Model} {f : α → Sem β} (g : α → β) : ∀ (l : List α) {Q : List β → Shared → Prop}, (∀ v ∈ l, ∀ (Q' : β → Shared → Prop), Q' (g v) s → wpAny M A (f v) Q' E s) → Q (l.map g) s → wpAny M A (l.mapM f) Q E s
  | [], _, _, h => by rw [List.mapM_nil]; exact wpAny_pure h
  | x :: l, Q, hf, h => by
    rw [List.mapM_cons]
    refine wpAny_bind (hf x (.head _) _ (wpAny_bind (mapM_some g l (Q := fun bs s' => wpAny M A (pure (g x :: bs)) Q E s') (fun v hv => hf v (.tail _ hv)) (wpAny_pure h))))
theorem kindO {M : Model} {v0 : Value} {Q : SortKind → Shared → Prop} (hp : ∀ v ∈ v0 :: vs, TI s.heap v (k v)) (h0 : k v0 = []) (h : Q oneType' s) : wpAny M A (keyKind' (v0 :: vs).toArray) Q E s := by
  rw [keyKind'_eq, List.mapM_toArray, map_eq_pure_bind]
  have fst : ∀ v ∈ v0 :: vs, ∃ r : Option Value, (k v = [] → r = none) ∧ ∀ (Q' : Option Value → Shared → Prop), Q' r s → wpAny M A (firstOfTuple' v) Q' E s := fun v hv => by
    have ty := typeOf_TI (M := M) (hp v hv)
    obtain ⟨a, o, us, n, e, ho, hc, hd, hi⟩ := hp v hv
    refine ⟨us[0]?, fun e0 => ?_, fun Q' hq => ?_⟩
    · rw [e0] at hi
      generalize hus : us.toList = l at hi
      cases hi
      rw [← Array.getElem?_toList, hus]
      rfl
    · rw [PySem.W.kas_first_eq]
      refine wpAny_bind (ty.here ?_)
      rw [if_neg (by first | decide | simp), e]
      exact wpAny_bind (listItems_at ho hd (wpAny_pure hq))
  have fst' : ∃ g : Value → Option Value, g v0 = none ∧ ∀ v ∈ v0 :: vs, ∀ (Q' : Option Value → Shared → Prop), Q' (g v) s → wpAny M A (firstOfTuple' v) Q' E s := by
    classical
    refine ⟨fun v => if hv : v ∈ v0 :: vs then (fst v hv).choose else none, ?_, fun v hv Q' hq => ?_⟩
    · show (if hv : v0 ∈ v0 :: vs then (fst v0 hv).choose else none) = none
      rw [dif_pos List.mem_cons_self]
      exact (fst v0 List.mem_cons_self).choose_spec.1 h0
    · have q : (if hv : v ∈ v0 :: vs then (fst v hv).choose else none) = (fst v hv).choose := dif_pos hv
      have hq' : Q' (if hv : v ∈ v0 :: vs then (fst v hv).choose else none) s := hq
      rw [q] at hq'
      exact (fst v hv).choose_spec.2 Q' hq'
  obtain ⟨g, g0, hg⟩ := fst'
  refine wpAny_bind (wpAny_bind (mapM_some g (v0 :: vs) hg (wpAny_pure ?_)))
  rw [List.map_cons, g0]
  rw [if_neg (by simp), if_neg (by simp)]
  rw [oneTypeOnly'_eq, List.mapM_toArray, map_eq_pure_bind]
  refine wpAny_bind (wpAny_bind (wpAny_bind (mapM_some (fun _ => Value.type "tuple") (v0 :: vs) (fun v hv Q' hq => (typeOf_TI (hp v hv)).here hq) (wpAny_pure ?_))))
  have hall : ((List.map (fun _ => Value.type "tuple") (v0 :: vs)).toArray.all fun x => x == Value.type "tuple") = true := by
    simp only [List.all_toArray, List.all_map, List.all_eq_true]
    intro _ _
    exact (by decide : (Value.type "tuple" == Value.type "tuple") = true)
  have h0' : (List.map (fun _ => Value.type "tuple") (v0 :: vs)).toArray[0]? = some (.type "tuple") := by simp
  rw [h0']
  dsimp only
  rw [if_pos hall]
  exact wpAny_pure (wpAny_pure h)
theorem sortableS {a : Addr} (hu : A.units < cLine) (h2 : 2 ≤ vs.length) (hp : ∀ v ∈ vs, TI s.heap v (k v)) (hn : (∀ v ∈ vs, k v ≠ []) ∨ ∃ v0 r, vs = v0 :: r ∧ k v0 = []) (ha : ∀ o, s.heap.get? a = some o → o.cls ≠ .type "tuple") :
    SortableO prog w A s a vs (ltS k) := by
  intro h' keep
  have hp' : ∀ v ∈ vs, TI h' v (k v) := fun v hm => (hp v hm).keep fun b o e c => keep b o (fun z => by subst z; exact ha o e c) e
  rcases hn with hn | ⟨v0, r, rfl, h0⟩
  · obtain ⟨fs, h1, h2', h3⟩ := firsts_TI (s := { s with heap := h' }) hp' hn
    refine ⟨tuples' true, fun Q E hq => ?_, cmpT hp'⟩
    refine PySem.W.kat_kind (T := .type "int") h1 (by omega) (fun f hm => ?_) (by rfl) ?_
    · obtain ⟨x, t, rfl⟩ := h3 f hm
      exact PySem.W.Looks.now
    · have e : (Value.type "int" != Value.type "tuple") = true := by first | decide +kernel | rfl | decide
      rw [e]
      exact hq
  · exact ⟨oneType', fun Q E hq => kindO (s := { s with heap := h' }) hp' h0 hq, cmpO hu hp'⟩
def Coll (prog : Program) (w : World) (A : Around) (s : Shared) (u : Value) (vs : List Value) : Prop :=
  ∀ (Q : List Value → Shared → Prop) (E : Value → Shared → Prop), (∀ h' tk, (∀ b o, s.heap.get? b = some o → h'.get? b = some o) → Q vs { s with heap := h', toks := tk }) → wpAny (model prog w) A (collect u) Q E s
theorem sorted_any {u : Value} {ltv : Value → Value → Bool} {Q : Value → Shared → Prop} (O : Swo ltv) (C : Coll prog w A.in1 s u vs) (hz : vs.length ≤ sizeLine)
    (hS : 2 ≤ vs.length → ∀ (h₁ : Heap) (tk : Nat) (a : Addr), h₁.get? a = some (seqObj "list" vs.toArray 0) → (∀ b o, s.heap.get? b = some o → h₁.get? b = some o) → SortableO prog w A.in1.in1 { s with heap := h₁, toks := tk } a vs ltv)
    (h : ∀ (h₁ : Heap) (tk : Nat), (∀ b o, s.heap.get? b = some o → h₁.get? b = some o) → ∀ (h' : Heap) (out : List Value) (n : Nat), Srtd ltv out → Stb ltv out vs → (∀ b o, h₁.get? b = some o → h'.get? b = some o) → h'.get? h₁.objs.size = some (seqObj "list" out.toArray n) →
      Q (.ref h₁.objs.size) { s with heap := h', toks := tk }) :
    wpAny (model prog w) A (call (.builtin "sorted") [u]) Q E s := by
  refine Calls.call_function_entry kind_sorted plain_sorted entry_sorted (args_sorted1 _) ?_
  unfold Builtin.«sorted»
  refine wpAny_bind (m := checkCount "sorted" 1 1 _) (wpAny_pure ?_)
  refine wpAny_bind (C _ _ fun h₁ tk k1 => ?_)
  refine wpAny_bind (wpAny_newList ?_ hz)
  have hoL : (h₁.push (seqObj "list" vs.toArray 0)).get? h₁.objs.size = some (seqObj "list" vs.toArray 0) := Heap.get?_push_size _ rfl
  refine wpAny_bind (wpAny_holding ?_)
  refine wpAny_call_entry slot_list_sort ⟨_, hoL, rfl⟩ entry_list_sort ?_ (args_list_sort _)
  refine list_sort_ord (s := { s with heap := h₁.push (seqObj "list" vs.toArray 0), toks := tk }) O hoL hz (fun h2 => ?_) fun out hs hb => ⟨_, rfl, ?_⟩
  · exact hS h2 _ tk _ hoL fun b o e => Heap.get?_push_of_some _ (k1 b o e)
  · obtain ⟨n, hn⟩ := sortedHeap_at (vs := vs) (out := out.toArray) hoL
    refine wpAny_pure ⟨_, rfl, h h₁ tk k1 _ out n hs hb (fun b o e => ?_) hn⟩
    have lt := Heap.lt_size e
    rw [sortedHeap_old (Nat.ne_of_lt lt) (by rw [Heap.size_push]; exact Nat.lt_succ_of_lt lt)]
    exact Heap.get?_push_of_some _ e
theorem coll_seq {a : Addr} {T : String} {o : Obj} {us : Array Value} {n : Nat} (hT : T = "list" ∨ T = "tuple") (ho : s.heap.get? a = some o) (hc : o.cls = .type T) (hd : o.data = .seq us n) (hz : us.size ≤ sizeLine) : Coll prog w A s (.ref a) us.toList :=
  fun Q E h => wpAny_collect_seq a hT ho hc hd (fun h' k => h h' s.toks k) hz
noncomputable def kOf (h : Heap) (v : Value) : List Int := by
  classical exact if q : ∃ S, TI h v S then q.choose else []
theorem ints_inj : ∀ {us : List Value} {a b : List Int}, IntsAre us a → IntsAre us b → a = b
  | _, _, _, .nil, .nil => rfl
  | _, _, _, .cons n t r, .cons _ _ r' => by rw [ints_inj r r']
theorem TI.inj {h : Heap} {v : Value} {S T : List Int} (x : TI h v S) (y : TI h v T) : S = T := by
  obtain ⟨a, o, us, n, e, ho, _, hd, hi⟩ := x
  obtain ⟨a', o', us', n', e', ho', _, hd', hi'⟩ := y
  rw [e] at e'
  cases e'
  rw [ho] at ho'
  cases ho'
  rw [hd] at hd'
  cases hd'
  exact ints_inj hi hi'
theorem kOf_eq {h : Heap} {v : Value} {S : List Int} (x : TI h v S) : kOf h v = S := by
  have q : ∃ S, TI h v S := ⟨S, x⟩
  have e : kOf h v = q.choose := by
    unfold kOf
    exact dif_pos q
  rw [e]
  exact TI.inj q.choose_spec x
end
end CkS
namespace L2
open PySem PySem.Spec PyProof.Rows
abbrev TL (H : Hp) : List V → List (List Int) → Prop := Paired fun x S => ∃ a, x = V.ref a ∧ H a = some (.tup (S.map V.int))
theorem TL.keep {H H' : Hp} {xs : List V} {Ss : List (List Int)} (t : TL H xs Ss) (k : ∀ b ys, H b = some (.tup ys) → H' b = some (.tup ys)) : TL H' xs Ss :=
  Paired.mapP t fun _ _ ⟨a, e, h⟩ => ⟨a, e, k _ _ h⟩
theorem TL.refs {H : Hp} : ∀ {xs : List V} {Ss : List (List Int)}, TL H xs Ss → ∀ x ∈ xs, ∃ a, x = V.ref a
  | _, _, .nil, x, h => by cases h
  | _, _, .cons ⟨a, e, _⟩ t, x, h => by
    rcases List.mem_cons.mp h with q | h
    · exact ⟨a, q.trans e⟩
    · exact TL.refs t x h
def rTLout (Ss : List (List Int)) (H : Hp) (Q : VK) : Prop := ∀ (p : Addr) (ys : List V) (Ts : List (List Int)), H p = none → TL H ys Ts → Ts.Perm Ss → Ts.Pairwise (fun a b => Ck.lle a b = true) → Q (.ref p) (upd H p (.lst ys))
def FstOk (Ss : List (List Int)) : Prop := (∀ S ∈ Ss, S ≠ []) ∨ ∃ r, Ss = [] :: r
section
variable {X : Cx} {pins : List (Addr × Obj)} {σ : St} {H : Hp} {s : Shared}
theorem ti_of (I : Inv X pins σ H s) {a : Addr} {S : List Int} (h : H a = some (.tup (S.map V.int))) : CkS.TI s.heap (.ref a) S := by
  obtain ⟨its, r1, ⟨o1, e1, c1, n1, d1⟩, _⟩ := I.tuple (SqT.of h)
  exact ⟨a, o1, its.toArray, n1, rfl, e1, c1, d1, by rw [List.toList_toArray]; exact r1.ints⟩
theorem tis_of (I : Inv X pins σ H s) : ∀ {xs : List V} {us : List Value} {Ss : List (List Int)}, Vals xs us → TL H xs Ss → Paired (CkS.TI s.heap) us Ss
  | _, _, _, .nil, .nil => .nil
  | _, _, _, .cons r t, .cons ⟨a, e, h⟩ t' => by
    subst e
    cases r
    exact .cons (ti_of I h) (tis_of I t t')
theorem paired_left {α β : Type} {R : α → β → Prop} : ∀ {l : List α} {m : List β}, Paired R l m → ∀ x ∈ l, ∃ y ∈ m, R x y
  | _, _, .nil, x, h => by cases h
  | _, _, .cons r t, x, h => by
    rcases List.mem_cons.mp h with q | h
    · exact ⟨_, List.mem_cons_self, q ▸ r⟩
    · obtain ⟨y, hy, q⟩ := paired_left t x h
      exact ⟨y, List.mem_cons_of_mem _ hy, q⟩
theorem kmap {h : Heap} : ∀ {us : List Value} {Ss : List (List Int)}, Paired (CkS.TI h) us Ss → us.map (CkS.kOf h) = Ss
  | _, _, .nil => rfl
  | _, _, .cons r t => by rw [List.map_cons, CkS.kOf_eq r, kmap t]
theorem sorted_TL {u : Value} {us : List Value} {xs : List V} {Ss : List (List Int)} {Q : VK} (hu : X.A.units + 64 < cLine) (I : Inv X pins σ H s) (C : CkS.Coll X.prog X.w X.A.in1 s u us) (rv : Vals xs us) (hl : xs.length ≤ sizeLine) (t : TL H xs Ss) (f : FstOk Ss)
    (h : rTLout Ss H Q) : wpAny (model X.prog X.w) X.A (call (.builtin "sorted") [u]) (EP X pins σ Q) X.xe s := by
  have ti := tis_of I rv t
  have hk : ∀ v ∈ us, CkS.TI s.heap v (CkS.kOf s.heap v) := fun v hv => by
    obtain ⟨S, _, q⟩ := paired_left ti v hv
    rw [CkS.kOf_eq q]
    exact q
  have hmap := kmap ti
  refine CkS.sorted_any (CkS.swoS (CkS.kOf s.heap)) C (by rw [← rv.length]; exact hl) (fun h2 h₁ tk a ha k1 => ?_) fun h₁ tk k1 h' out n hs hb k2 hn => ?_
  · refine CkS.sortableS (s := { s with heap := h₁, toks := tk }) (by show X.A.units + 1 + 1 < cLine; omega) h2 (fun v hv => (hk v hv).keep fun b o e _ => k1 b o e) ?_ fun o e => ?_
    · rcases f with f | ⟨r, f⟩
      · refine .inl fun v hv => f _ ?_
        rw [← hmap]
        exact List.mem_map.mpr ⟨v, hv, rfl⟩
      · subst f
        cases us with
        | nil => cases hmap
        | cons v0 r' =>
          rw [List.map_cons] at hmap
          exact .inr ⟨v0, r', rfl, (List.cons.inj hmap).1⟩
    · have e' : some o = some (seqObj "list" us.toArray 0) := e.symm.trans ha
      cases e'
      intro c
      exact absurd (Value.type.inj c) (by decide)
  · have I1 : Inv X pins σ H { s with heap := h₁, toks := tk } := I.kept k1
    have hrefs : ∀ v ∈ out, ∃ a, v = Value.ref a := fun v hv => by
      obtain ⟨a, _, _, _, e, _⟩ := hk v (hb.perm.mem_iff.mp hv)
      exact ⟨a, e⟩
    have hlen : (out.map backV).length ≤ sizeLine := by
      rw [List.length_map, hb.perm.length_eq, ← rv.length]
      exact hl
    have hp : H h₁.objs.size = none := I1.hok.fresh (Nat.le_refl _)
    have I2 : Inv X pins σ (upd H h₁.objs.size (.lst (out.map backV))) { s with heap := h', toks := tk } :=
      I1.laid (t' := tk) k2 (Nat.le_refl _) ⟨hlen, out, n, vals_back hrefs, hn⟩
    refine ⟨.ref _, _, I2, rfl, h _ (out.map backV) (out.map (CkS.kOf s.heap)) hp ?_ ?_ ?_⟩
    · have gen : ∀ l : List Value, (∀ v ∈ l, v ∈ us) → TL H (l.map backV) (l.map (CkS.kOf s.heap)) := by
        have one : ∀ {us : List Value} {xs : List V} {Ss : List (List Int)}, Vals xs us → TL H xs Ss → (∀ x ∈ xs, ∃ a, x = V.ref a) → ∀ v ∈ us, ∃ (a : Addr) (S : List Int), v = Value.ref a ∧ H a = some (.tup (S.map V.int)) := by
          intro us xs Ss rv t
          induction rv generalizing Ss with
          | nil => intro _ v hv; cases hv
          | @cons x v xs us r q ih =>
            cases t with
            | cons tt tr =>
              obtain ⟨a, e, hh⟩ := tt
              intro hx w' hw
              rcases List.mem_cons.mp hw with z | hw
              · subst e
                cases r
                exact ⟨a, _, z, hh⟩
              · exact ih tr (fun y hy => hx y (List.mem_cons_of_mem _ hy)) w' hw
        intro l hl'
        induction l with
        | nil => exact .nil
        | cons v l ih =>
          obtain ⟨a, S, e, hh⟩ := one rv t t.refs v (hl' v List.mem_cons_self)
          rw [List.map_cons, List.map_cons]
          subst e
          rw [CkS.kOf_eq (ti_of I hh)]
          exact .cons ⟨a, rfl, hh⟩ (ih fun v hv => hl' v (List.mem_cons_of_mem _ hv))
      exact gen out fun v hv => hb.perm.mem_iff.mp hv
    · rw [← hmap]
      exact hb.perm.map _
    · refine List.pairwise_map.mpr (hs.imp fun {x y} q => ?_)
      have q' : HT.lexLt (CkS.kOf s.heap y) (CkS.kOf s.heap x) = false := q
      rw [Ck.lt_lle] at q'
      simpa using q'
def rSortLT (K : PySem.W.Frag) : List V → Hp → VK → Prop := fun vs H Q => ∃ (a : Addr) (xs : List V) (Ss : List (List Int)), vs = [V.ref a] ∧ SqL K H a xs ∧ TL H xs Ss ∧ FstOk Ss ∧ rTLout Ss H Q
theorem cr_sortLT (hu : X.A.units + 64 < cLine) : CallR X (.builtin "sorted") (rSortLT X.K) := by
  intro pins s σ H vs us Q I r h
  obtain ⟨a, xs, Ss, rfl, hs, t, f, q⟩ := h
  obtain ⟨its, rv, ⟨o, n, ho, hc, hd, hdat⟩, hz⟩ := I.list hs
  rw [Vals.ref1 r]
  have C := CkS.coll_seq (prog := X.prog) (w := X.w) (A := X.A.in1) (.inl rfl) ho hc hdat (by rw [List.size_toArray, ← rv.length]; exact hz)
  rw [List.toList_toArray] at C
  exact sorted_TL hu I C rv hz t f q
def keysO (p d : Addr) : HO := .ext fun h => PySem.W.KdlKeysView h p d
theorem keysO_ok {P : Program} {w : World} {H : Hp} {h : Heap} {p d : Addr} (e : h.get? p = some { cls := .type "dict_keys", data := .fields #[.ref d] }) : ObjOk P w H h p (keysO p d) :=
  ⟨⟨_, e, rfl, rfl⟩, ⟨_, e⟩, fun h1 h2 x k => let ⟨o, ho, r⟩ := x; ⟨o, k o ho, r⟩⟩
def rKeysT : V → List V → Hp → VK → Prop := fun x xs H Q => ∃ (a : Addr) (kvs : List (List Key × V)), x = .ref a ∧ xs = [] ∧ H a = some (.dT kvs) ∧ ∀ p, H p = none → Q (.ref p) (upd H p (keysO p a))
theorem mt_keysT : MtR X "dict.keys" rKeysT := by
  intro pins s σ H x xs v us Q I rx rxs h
  obtain ⟨a, kvs, rfl, rfl, ha, q⟩ := h
  cases rx
  cases rxs
  obtain ⟨z, hd, xs', rel, o, es, ep, ho, hx, hdat, _⟩ := dt_of I.hok ha
  have hm : s.heap.DictRaw a es ep := ⟨o, ho, hx, hdat⟩
  have hf : H s.heap.objs.size = none := I.hok.fresh (Nat.le_refl _)
  refine call_meetsIn F.slot_dict_keys hm.typeIs F.entry_dict_keys (F.args_dict_keys_1 _) (meets_dict_keys_raw a hd) ⟨⟨es, ep, hm⟩, ?_⟩
  exact ⟨.ref s.heap.objs.size, upd H s.heap.objs.size (keysO s.heap.objs.size a), I.laid (t' := s.toks) (fun b u e => Heap.get?_push_of_some _ e) (Nat.le_refl _) (keysO_ok (Heap.get?_push_size _ rfl)), rfl, q _ hf⟩
def rSortKT : List V → Hp → VK → Prop := fun vs H Q => ∃ (p a : Addr) (kvs : List (List Key × V)) (Ss : List (List Int)), vs = [V.ref p] ∧ H p = some (keysO p a) ∧ H a = some (.dT kvs) ∧ kvs.map (·.1) = Ss.map (List.map Sum.inl) ∧ FstOk Ss ∧ rTLout Ss H Q
theorem kV_ints (S : List Int) : (S.map Sum.inl : List Key).map kV = S.map V.int := by
  rw [List.map_map]
  rfl
theorem keys_TL {H : Hp} : ∀ {kvs : List (List Key × V)} {xs : List (List Key × Addr × Value)} {Ss : List (List Int)}, KT H kvs xs → kvs.map (·.1) = Ss.map (List.map Sum.inl) → TL H (xs.map fun x => V.ref x.2.1) Ss
  | _, _, Ss, .nil, e => by
    cases Ss with
    | nil => exact .nil
    | cons _ _ => cases e
  | _, _, Ss, .cons r t, e => by
    cases Ss with
    | nil => cases e
    | cons S Ss =>
      rw [List.map_cons, List.map_cons] at e
      obtain ⟨e1, e2⟩ := List.cons.inj e
      rw [List.map_cons]
      refine .cons ⟨_, rfl, ?_⟩ (keys_TL t e2)
      rw [r.2.1, e1, kV_ints]
theorem cr_sortKT (hc : X.calm = true) (hu : X.A.units + 64 < cLine) : CallR X (.builtin "sorted") rSortKT := by
  intro pins s σ H vs us Q I r h
  obtain ⟨p, a, kvs, Ss, rfl, hp, ha, hk, f, q⟩ := h
  rw [Vals.ref1 r]
  obtain ⟨z, hd, xs', rel, o, es, ep, ho, hx, hdat, hes, _⟩ := dt_of I.hok ha
  have hm : s.heap.DictRaw a es ep := ⟨o, ho, hx, hdat⟩
  have hv : PySem.W.KdlKeysView s.heap p a := (show ObjOk X.prog X.w H s.heap p (keysO p a) from I.hok p _ hp).1
  have hn : es.size ≤ sizeLine := by
    rw [← Array.length_toList, hes, List.length_map, ← Paired.length rel]
    exact z
  have C : CkS.Coll X.prog X.w X.A.in1 s (.ref p) (xs'.map fun x => Value.ref x.2.1) := fun Q' E h => by
    refine PySem.W.kdu_collect (KdlSrc.rawKeys (r := p) (d := a) (es := es) (ep := ep)) (I.ok.hd hc) ⟨hv, hm⟩ hn fun h' tk acc hk' hacc => ?_
    have e : acc.toList = xs'.map fun x => Value.ref x.2.1 := by
      refine List.ext_getElem? fun j => ?_
      rw [Array.getElem?_toList, List.getElem?_map]
      cases q1 : acc[j]? with
      | none =>
        have h1 : acc.size ≤ j := Array.getElem?_eq_none_iff.mp q1
        rw [hacc.1, ← Array.length_toList, hes, List.length_map] at h1
        rw [List.getElem?_eq_none h1]
        rfl
      | some v =>
        obtain ⟨hi, ev⟩ := hacc.2 j v q1
        have h2 : es.toList[j]? = some es[j] := by
          rw [Array.getElem?_toList, Array.getElem?_eq_getElem hi]
        rw [hes, List.getElem?_map] at h2
        cases q3 : xs'[j]? with
        | none => rw [q3] at h2; cases h2
        | some y =>
          rw [q3] at h2
          have h4 : entryOfKey (tupleKind (mixKind X.prog X.w)) y = es[j] := Option.some.inj h2
          rw [ev, ← h4]
          rfl
    rw [e]
    exact h h' tk hk'
  have rv : Vals (xs'.map fun x => V.ref x.2.1) (xs'.map fun x => Value.ref x.2.1) := by
    have gen : ∀ l : List (List Key × Addr × Value), Vals (l.map fun x => V.ref x.2.1) (l.map fun x => Value.ref x.2.1) := by
      intro l
      induction l with
      | nil => exact .nil
      | cons x r ih => exact .cons rfl ih
    exact gen xs'
  exact sorted_TL hu I C rv (by rw [List.length_map, ← Paired.length rel]; exact z) (keys_TL rel hk) f q
def rSortI0 (K : PySem.W.Frag) : List V → Hp → VK → Prop := fun vs H Q => ∃ (a : Addr) (ns : List Int), vs = [V.ref a] ∧ (SqL K H a (ns.map V.int) ∨ SqT K H a (ns.map V.int)) ∧ ∀ p, H p = none → Q (.ref p) (upd H p (.lst ((Ck.srt ns).map V.int)))
theorem cr_sortI0 : CallR X (.builtin "sorted") (rSortI0 X.K) := by
  intro pins s σ H vs us Q I r h
  obtain ⟨a, ns, rfl, hs, q⟩ := h
  rw [Vals.ref1 r]
  obtain ⟨its, rv, hz, C⟩ : ∃ its, Vals (ns.map V.int) its ∧ (ns.map V.int).length ≤ sizeLine ∧ CkS.Coll X.prog X.w X.A.in1 s (.ref a) its := by
    rcases hs with hs | hs
    · obtain ⟨its, rv, ⟨o, n, ho, hc, hd, hdat⟩, hz⟩ := I.list hs
      have C := CkS.coll_seq (prog := X.prog) (w := X.w) (A := X.A.in1) (.inl rfl) ho hc hdat (by rw [List.size_toArray, ← rv.length]; exact hz)
      rw [List.toList_toArray] at C
      exact ⟨its, rv, hz, C⟩
    · obtain ⟨its, rv, ⟨o, ho, hc, n, hdat⟩, hz⟩ := I.tuple hs
      have C := CkS.coll_seq (prog := X.prog) (w := X.w) (A := X.A.in1) (.inr rfl) ho hc hdat (by rw [List.size_toArray, ← rv.length]; exact hz)
      rw [List.toList_toArray] at C
      exact ⟨its, rv, hz, C⟩
  have hi := rv.ints
  refine CkS.sorted_any SrtO.swo_int C (by rw [← rv.length]; exact hz) (fun h2 h₁ tk a' ha k1 => SrtO.ints_sortable hi h2) fun h₁ tk k1 h' out n hs' hb k2 hn => ?_
  obtain ⟨e1, e2, e3⟩ := SrtO.ints_out hi hs' hb
  have e4 := Ck.srt_uniq e2 e3
  rw [e4] at e1
  have I1 : Inv X pins σ H { s with heap := h₁, toks := tk } := I.kept k1
  have hlen : ((Ck.srt ns).map V.int).length ≤ sizeLine := by
    rw [List.length_map, (Ck.srt_perm ns).length_eq]
    rw [List.length_map] at hz
    exact hz
  exact ⟨.ref _, upd H h₁.objs.size (.lst ((Ck.srt ns).map V.int)), I1.laid (t' := tk) k2 (Nat.le_refl _) ⟨hlen, out, n, vals_of_ints e1, hn⟩, rfl, q _ (I1.hok.fresh (Nat.le_refl _))⟩
end
end L2

namespace L2
open PySem PySem.Spec PyProof.Rows
section
variable {X : Cx} {pins : List (Addr × Obj)} {σ : St} {H : Hp} {s : Shared}
theorem call_tupleF : CallR X (.type "tuple") (fun xs H Q => ∃ p ys, xs = [.ref p] ∧ SqL X.K H p ys ∧ ∀ l o, H l = none → o.dict = none → Q (.ref l) (upd H l (.frz o (.tup ys)))) := by
  intro pins s σ H xs us Q I r h
  obtain ⟨p, ys, rfl, hq, q⟩ := h
  obtain ⟨u, rfl, rx⟩ := vals1 r
  cases rx
  obtain ⟨its, r', pl, hz⟩ := I.list hq
  have hlen := r'.length
  refine call_tuple_list pl.isList (fun h' kp => ?_) (by simp only [List.size_toArray] <;> omega)
  have I1 : Inv X pins σ H { s with heap := h' } := I.kept (t' := s.toks) kp
  have I2 : Inv X pins σ (upd H h'.objs.size (.frz { cls := .type "tuple", data := .seq its.toArray } (.tup ys))) { s with heap := h'.push { cls := .type "tuple", data := .seq its.toArray } } :=
    I1.laid (t' := s.toks) (fun b o e => Heap.get?_push_of_some _ e) (Nat.le_refl _) ⟨Heap.get?_push_size _ rfl, hz, its, r', IsTup.new _ _⟩
  exact ⟨.ref h'.objs.size, _, I2, rfl, q _ _ (I1.hok.fresh (Nat.le_refl _)) rfl⟩
def PairV (H : Hp) (x : V) (e : List Int × V) : Prop := ∃ p q, x = V.ref p ∧ H p = some (.tup [.ref q, e.2]) ∧ H q = some (.tup (e.1.map V.int))
abbrev PL (H : Hp) : List V → List (List Int × V) → Prop := Paired (PairV H)
abbrev Row := List Int × Addr × Addr × Value
theorem rows_of (I : Inv X pins σ H s) : ∀ {xs : List V} {us : List Value} {es : List (List Int × V)}, Vals xs us → PL H xs es →
    ∃ ts : List Row, us = ts.map (fun t => Value.ref t.2.1) ∧ Paired (fun e t => e.1 = t.1 ∧ RelV e.2 t.2.2.2) es ts ∧ ∀ t ∈ ts, s.heap.IsTuple t.2.1 #[.ref t.2.2.1, t.2.2.2] ∧ H t.2.2.1 = some (.tup (t.1.map V.int))
  | _, _, _, .nil, .nil => ⟨[], rfl, .nil, fun t h => by cases h⟩
  | _, _, _, .cons r t, .cons (b := e) pv tt => by
    obtain ⟨p, q, ex, hp, hq⟩ := pv
    obtain ⟨ts, e1, e2, e3⟩ := rows_of I t tt
    subst ex
    cases r
    obtain ⟨its, r1, ⟨o1, g1, c1, n1, d1⟩, _⟩ := I.tuple (SqT.of hp)
    cases r1 with
    | cons a b =>
      cases b with
      | cons a' b' =>
        cases b'
        rename_i u'
        cases a
        refine ⟨(e.1, p, q, u') :: ts, by rw [List.map_cons, ← e1], .cons ⟨rfl, a'⟩ e2, fun t ht => ?_⟩
        rcases List.mem_cons.mp ht with z | ht
        · subst z
          exact ⟨⟨o1, g1, c1, n1, d1⟩, hq⟩
        · exact e3 t ht
theorem kV_inl (S : List Int) : (S.map Sum.inl : List Key).map kV = S.map V.int := by
  rw [List.map_map]
  rfl
def rDictF : List V → Hp → VK → Prop := fun vs H Q => ∃ (a : Addr) (o : Obj) (xs : List V) (es : List (List Int × V)), vs = [V.ref a] ∧ H a = some (.frz o (.tup xs)) ∧ o.dict = none ∧ PL H xs es ∧ (es.map (·.1)).Nodup ∧
  ∀ p, H p = none → Q (.ref p) (upd H p (.dT (es.map fun e => (e.1.map Sum.inl, e.2))))
theorem call_dictF (hc : X.calm = true) (hu : X.A.units + 64 < cLine) : CallR X (.type "dict") rDictF := by
  intro pins s σ H vs us Q I r h
  obtain ⟨a, o, xs, es, rfl, ha, hd, pl, nd, q⟩ := h
  obtain ⟨u, rfl, rx⟩ := vals1 r
  cases rx
  obtain ⟨ho, hz, its, rv, ot, hot, hcl, n, hdat⟩ := (show ObjOk X.prog X.w H s.heap a (.frz o (.tup xs)) from I.hok a _ ha)
  rw [ho] at hot
  cases hot
  obtain ⟨ts, e1, e2, e3⟩ := rows_of I rv pl
  have hl : its.length = ts.length := by rw [e1, List.length_map]
  have hkeys : ts.map (·.1) = es.map (·.1) := by
    have gen : ∀ {es : List (List Int × V)} {ts : List Row}, Paired (fun e t => e.1 = t.1 ∧ RelV e.2 t.2.2.2) es ts → ts.map (·.1) = es.map (·.1) := by
      intro es ts h
      induction h with
      | nil => rfl
      | cons r _ ih => rw [List.map_cons, List.map_cons, ih, r.1]
    exact gen e2
  have inlInj : ∀ x y : List Int, (x.map Sum.inl : List Key) = y.map Sum.inl → x = y := by
    intro x
    induction x with
    | nil => intro y h; cases y with
      | nil => rfl
      | cons _ _ => cases h
    | cons a x ih => intro y h; cases y with
      | nil => cases h
      | cons b y =>
        rw [List.map_cons, List.map_cons] at h
        injection h with h1 h2
        injection h1 with h1
        rw [h1, ih y h2]
  have ndK : ((ts.map fun t => ((t.1.map Sum.inl : List Key), t.2.2.1, t.2.2.2)).map (·.1)).Nodup := by
    rw [List.map_map]
    have e : ((fun x : List Key × Addr × Value => x.1) ∘ fun t : Row => ((t.1.map Sum.inl : List Key), t.2.2.1, t.2.2.2)) = (fun S : List Int => (S.map Sum.inl : List Key)) ∘ fun t : Row => t.1 := rfl
    rw [e, ← List.map_map, hkeys]
    exact List.pairwise_map.mpr (nd.imp fun h z => h (inlInj _ _ z))
  have hb : sysModules < s.heap.objs.size := I.big
  refine call_dict_pairsH (knd := tupleKind (mixKind X.prog X.w)) (ps := ts.map fun t => ((t.1.map Sum.inl : List Key), t.2.2.1, t.2.2.2))
    (PairArg.tuple a its.toArray (fun j => (ts.getD j ([], 0, 0, .none)).2.1) (ts.map fun t => (Value.ref t.2.2.1, t.2.2.2))) (I.ok.hd hc) (by show X.A.units + 1 + 1 < cLine; omega) ⟨⟨o, n, ho, hcl, hd, hdat⟩, ?_, ?_⟩ ⟨?_, ?_⟩ ?_ ?_ ?_
  · rw [List.size_toArray, List.length_map, hl]
  · intro j k v hj
    rw [List.getElem?_map] at hj
    cases q1 : ts[j]? with
    | none => rw [q1] at hj; cases hj
    | some t =>
      rw [q1] at hj
      cases hj
      have gd : ts.getD j ([], 0, 0, .none) = t := by
        rw [List.getD_eq_getElem?_getD, q1]
        rfl
      refine ⟨?_, .inl ?_⟩
      · show its.toArray[j]? = some (.ref (ts.getD j ([], 0, 0, .none)).2.1)
        rw [List.getElem?_toArray, e1, List.getElem?_map, q1, gd]
        rfl
      · show s.heap.IsTuple (ts.getD j ([], 0, 0, .none)).2.1 _
        rw [gd]
        exact (e3 t (List.mem_of_getElem? q1)).1
  · rw [List.length_map, List.length_map]
  · intro i key v hr
    have hr' : (ts.map fun t => (Value.ref t.2.2.1, t.2.2.2))[i]? = some (key, v) := hr
    rw [List.getElem?_map] at hr'
    cases q1 : ts[i]? with
    | none => rw [q1] at hr'; cases hr'
    | some t =>
      rw [q1] at hr'
      cases hr'
      exact ⟨t.1.map Sum.inl, t.2.2.1, by rw [List.getElem?_map, q1]; rfl, rfl⟩
  · intro h' hk x hx
    obtain ⟨t, ht, rfl⟩ := List.mem_map.mp hx
    have hq := (e3 t ht).2
    have k1 := key_of (ks := t.1.map Sum.inl) I.hok (by rw [kV_inl]; exact hq)
    obtain ⟨o', its', n', g1, g2, g3, g4⟩ := k1
    exact ⟨o', its', n', hk _ _ (Nat.ne_of_lt (Heap.lt_size g1)) (by simp) g1, g2, g3, g4⟩
  · rw [List.length_map, ← hl, ← rv.length]
    exact hz
  · intro h' tk hd' hk
    rw [storedAllH_nil_of_nodup _ ndK] at hd'
    obtain ⟨od, ees, ep, g1, g2, g3, g4, g5, g6⟩ := hd'
    have hm : (s.heap.objs.size == sysModules) = false := beq_eq_false_iff_ne.mpr (Nat.ne_of_gt hb)
    have hf : H s.heap.objs.size = none := I.hok.fresh (Nat.le_refl _)
    have kt : KT (upd H s.heap.objs.size (.dT (es.map fun e => (e.1.map Sum.inl, e.2)))) (es.map fun e => ((e.1.map Sum.inl : List Key), e.2)) (ts.map fun t => ((t.1.map Sum.inl : List Key), t.2.2.1, t.2.2.2)) := by
      have gen : ∀ {es' : List (List Int × V)} {ts' : List Row}, Paired (fun e t => e.1 = t.1 ∧ RelV e.2 t.2.2.2) es' ts' → (∀ t ∈ ts', H t.2.2.1 = some (.tup (t.1.map V.int))) →
          KT (upd H s.heap.objs.size (.dT (es.map fun e => (e.1.map Sum.inl, e.2)))) (es'.map fun e => ((e.1.map Sum.inl : List Key), e.2)) (ts'.map fun t => ((t.1.map Sum.inl : List Key), t.2.2.1, t.2.2.2)) := by
        intro es' ts' h
        induction h with
        | nil => intro _; exact .nil
        | @cons e t l m r _ ih =>
          intro hh
          rw [List.map_cons, List.map_cons]
          refine .cons ⟨by rw [r.1], ?_, r.2⟩ (ih fun t ht => hh t (List.mem_cons_of_mem _ ht))
          have h1 := hh t List.mem_cons_self
          rw [upd_ne (ne_of_none h1 hf), h1, r.1, kV_inl]
      exact gen e2 fun t ht => (e3 t ht).2
    have ok : ObjOk X.prog X.w (upd H s.heap.objs.size (.dT (es.map fun e => (e.1.map Sum.inl, e.2)))) h' s.heap.objs.size (.dT (es.map fun e => (e.1.map Sum.inl, e.2))) := by
      refine ⟨?_, hm, _, kt, od, ees, ep, g1, g2, g3, g4, g6⟩
      rw [List.length_map, Paired.length e2, ← hl, ← rv.length]
      exact hz
    exact ⟨.ref s.heap.objs.size, _, I.laid (t' := tk) (fun b o e => hk b o (by simp) e) (Nat.le_refl _) ok, rfl, q _ hf⟩
def rSetI (K : PySem.W.Frag) (w : World) : List V → Hp → VK → Prop := fun vs H Q => ∃ (a : Addr) (ns : List Int), vs = [V.ref a] ∧ SqT K H a (ns.map V.int) ∧ ns.length + 1 < scanBound ∧
  ∀ p c, H p = none → c ≤ ns.length → Q (.ref p) (upd H p (SetO w p (fun j => decide (j ∈ ns)) c))
theorem call_setI (hc : X.calm = true) : CallR X (.type "set") (rSetI X.K X.w) := by
  intro pins s σ H vs us Q I r h
  obtain ⟨a, ns, rfl, hs, hb, q⟩ := h
  obtain ⟨u, rfl, rx⟩ := vals1 r
  cases rx
  obtain ⟨its, rv, p, hz⟩ := I.tuple hs
  refine call_set_tupI (P := X.prog) (w := X.w) (items := its.toArray) ns (I.ok.hd hc) p (by rw [List.toList_toArray]; exact rv.ints) hb fun h' tk c R hle k => ?_
  exact ⟨.ref s.heap.objs.size, upd H s.heap.objs.size (SetO X.w s.heap.objs.size (fun j => decide (j ∈ ns)) c), I.laid (t' := tk) k (Nat.le_refl _) (setO_new R), rfl, q _ c (I.hok.fresh (Nat.le_refl _)) hle⟩
end
end L2

namespace Ck
open PySem PySem.Spec PyProof.Rows L2
def topS (i : Nat) : Stmt := PySem.Challenge.pw_cointakes_k39_whole_plans_of_keepers.main.body.getD i (.Pass ⟨0, 0, 0, 0⟩)
abbrev FnP (K : PySem.W.Frag) (x : Str) (i : Nat) (f : Addr) (fd : FuncData) : Prop := FunD K x x (defArgs (topS i)) (defBody (topS i)) (defScope (topS i)) [] [] f fd
def Cal (P : Program) (w : World) (K : PySem.W.Frag) (mg : Str → Option Value) (base : Heap) (k : Nat) (x : Str) (ps : List Str) (sp : Sp) : Prop :=
  ∃ f fd, FnOk P w K mg base CX0 k f fd ps sp ∧ mg x = some (.ref f) ∧ PySem.W.keepIn K (.ref f) = true ∧ Binds K fd ps []
def tCl (sp : Sp) (t : TA) : TE := fun σ H Q => t σ H fun vs H1 => sp vs H1 Q E0
theorem pe_cal {X : Cx} {k j : Nat} {x : Str} {ps : List Str} {sp : Sp} {e : Expr} {es : List Expr} {t : TA} {p pos : Pos} (C : Cal X.prog X.w X.K X.mg X.base k x ps sp) (hr : Room j X.A) (ha : PA X (e :: es) t) (hk : k ≤ j := by decide) (hg : Gl X x := by rfl)
    (hdb : (x == ("__debug__" : Str)) = false := by decide) (he : starEach (e :: es) X.env = (false, eval e X.env) :: starEach es X.env := by rfl) (hpl : (backTo pos (starEach es X.env)).any (·.1) = false := by rfl) :
    PE X (.Call (.Name x p) (e :: es) [] pos) (tCl sp t) := by
  obtain ⟨f, fd, F, m, kp, b⟩ := C
  have z := pe_call (p := p) (pos := pos) F (hr.mono hk) hg m kp b .nil pass0 ha hdb he hpl
  refine ⟨fun pins s σ H Q I h => z.run pins s σ H Q I ?_⟩
  have e : ∀ vs : List V, vs ++ [] = vs := List.append_nil
  show t σ H fun vs H1 => sp (vs ++ []) H1 Q E0
  simp only [e]
  exact h
structure Blt (mg : Str → Option Value) : Prop where
  isi : mg "isinstance" = none
  tup : mg "tuple" = none
  int : mg "int" = none
  bool : mg "bool" = none
  len : mg "len" = none
  enum : mg "enumerate" = none
  sorted : mg "sorted" = none
  min : mg "min" = none
  max : mg "max" = none
  range : mg "range" = none
  list : mg "list" = none
  set : mg "set" = none
  dict : mg "dict" = none
theorem same_upd {H : Hp} {p : Addr} {o : HO} (h : H p = none) : Same H (upd H p o) := fun b u q => by
  rw [upd_ne (ne_of_none q h)]
  exact q
def SameB (a : Addr) (H H' : Hp) : Prop := ∀ b o, b ≠ a → H b = some o → H' b = some o
theorem SameB.refl (a : Addr) (H : Hp) : SameB a H H := fun _ _ _ h => h
theorem SameB.trans {a : Addr} {H H1 H2 : Hp} (x : SameB a H H1) (y : SameB a H1 H2) : SameB a H H2 := fun b o n h => y b o n (x b o n h)
theorem Same.b {a : Addr} {H H' : Hp} (x : Same H H') : SameB a H H' := fun b o _ h => x b o h
theorem sameB_upd {a : Addr} {H : Hp} {o : HO} : SameB a H (upd H a o) := fun b u n q => by
  rw [upd_ne n]
  exact q
theorem SameB.of_new {a : Addr} {H H1 H2 : Hp} (x : Same H H1) (n : H a = none) (y : SameB a H1 H2) : Same H H2 := fun b o q => y b o (ne_of_none q n) (x b o q)
def TupI (H : Hp) (a : Addr) (S : List Int) : Prop := H a = some (.tup (S.map V.int))
def LstI (H : Hp) (a : Addr) (S : List Int) : Prop := H a = some (.lst (S.map V.int))
structure WebAt (H : Hp) (a : Addr) (n : Nat) (E : Edges) : Prop where
  ex : ∃ et xs, H a = some (.tup [.int n, .ref et]) ∧ H et = some (.tup xs) ∧ TL H xs (E.map fun e => [e.1, e.2])
theorem WebAt.same {H H' : Hp} {a : Addr} {n : Nat} {E : Edges} (s : Same H H') (x : WebAt H a n E) : WebAt H' a n E := by
  obtain ⟨et, xs, h1, h2, h3⟩ := x.ex
  exact ⟨et, xs, s _ _ h1, s _ _ h2, h3.keep fun b ys q => s _ _ q⟩
theorem TL.same {H H' : Hp} {xs : List V} {Ss : List (List Int)} (s : Same H H') (t : TL H xs Ss) : TL H' xs Ss := t.keep fun b ys q => s _ _ q
theorem SameB.tup {a : Addr} {H H' : Hp} {o : HO} (s : SameB a H H') (ha : H a = some o) (no : ∀ ys, o ≠ .tup ys) : ∀ b ys, H b = some (.tup ys) → H' b = some (.tup ys) := fun b ys q =>
  s b _ (fun z => by rw [z, ha] at q; exact no ys (Option.some.inj q)) q
theorem WebAt.keep {H H' : Hp} {a : Addr} {n : Nat} {E : Edges} (t : ∀ b ys, H b = some (.tup ys) → H' b = some (.tup ys)) (x : WebAt H a n E) : WebAt H' a n E := by
  obtain ⟨et, xs, h1, h2, h3⟩ := x.ex
  exact ⟨et, xs, t _ _ h1, t _ _ h2, h3.keep t⟩
theorem small {n : Nat} (h : n ≤ 1000) : n ≤ sizeLine := Nat.le_of_lt (small1000 h)
theorem kTT {K : PySem.W.Frag} : PySem.W.kitOne K (.type "tuple") (.type "tuple") = some true := kit_ty (by decide +kernel)
theorem kII {K : PySem.W.Frag} : PySem.W.kitOne K (.type "int") (.type "int") = some true := kit_ty (by decide +kernel)
theorem kIB {K : PySem.W.Frag} : PySem.W.kitOne K (.type "int") (.type "bool") = some false := kit_ty (by decide +kernel)
theorem kBB {K : PySem.W.Frag} : PySem.W.kitOne K (.type "bool") (.type "bool") = some true := kit_ty (by decide +kernel)
end Ck

namespace Ck
open PySem PySem.Spec PyProof.Rows L2
section
variable {P : Program} {w : World} {K : PySem.W.Frag} {mg : Str → Option Value} {base : Heap} {f : Addr} {fd : FuncData}
def spIsIn : Sp := fun vs H Q _ => ∃ i lo hi : Int, vs = [.int i, .int lo, .int hi] ∧ Q (.bl (decide (lo ≤ i ∧ i ≤ hi))) H
theorem sc_is_in : FnScope ["value", "least", "most"] ["value", "least", "most"] (defScope (topS 6)) := ⟨rfl, rfl, rfl, by decide +kernel, rfl, by decide +kernel, by decide +kernel⟩
theorem ok_is_in (B : Blt mg) (F : FnP K "is_in" 6 f fd) : FnOk P w K mg base CX0 1 f fd ["value", "least", "most"] spIsIn := by
  refine F.ok sc_is_in (fun vs H Q E h => ?_) (fun cdv A outer s H vs Q E hr h => ?_)
  · obtain ⟨i, lo, hi, rfl, _⟩ := h
    rfl
  obtain ⟨i, lo, hi, rfl, q⟩ := h
  refine ⟨_, PSs.nox (pss_one (ps_ret (pe_and (pe_callB call_isi (by rfl) B.isi boot_isinstance (pa_cons (pv 0) (pa_cons (pe_bltn (v := .ty "int") (by rfl) B.int boot_int rfl) pa_nil))) (pe_and (pe_not (pe_callB call_isi (by rfl) B.isi boot_isinstance (pa_cons (pv 0) (pa_cons (pe_bltn (v := .ty "bool") (by rfl) B.bool boot_bool rfl) pa_nil)))) (pe_one (pe_chain op_le op_le (pv 1) (pv 0) (pv 2))))))), ?_⟩
  refine ⟨_, rfl, _, _, _, _, true, rfl, .ty _, .base (.int _), kII, _, rfl, iteT ?_⟩
  refine ⟨_, rfl, _, _, _, _, false, rfl, .ty _, .base (.int _), kIB, _, rfl, _, rfl, iteT ?_⟩
  refine ⟨_, rfl, _, rfl, _, _, rfl, rfl, _, rfl, ite2 (fun c => ?_) (fun c => ?_)⟩
  · have c1 : lo ≤ i := of_decide_eq_true c
    refine ⟨_, rfl, _, _, rfl, rfl, ?_⟩
    have e : decide (lo ≤ i ∧ i ≤ hi) = decide (i ≤ hi) := decide_eq_decide.mpr ⟨fun z => z.2, fun z => ⟨c1, z⟩⟩
    rw [e] at q
    exact q
  · have c1 : ¬ lo ≤ i := fun z => c (decide_eq_true z)
    have e : decide (lo ≤ i ∧ i ≤ hi) = false := decide_eq_false fun z => c1 z.1
    rw [e] at q
    exact q
def spIsEdge : Sp := fun vs H Q _ => ∃ (a : Addr) (x y m : Int), vs = [.ref a, .int m] ∧ H a = some (.tup [.int x, .int y]) ∧ 0 ≤ x ∧ x < y ∧ y < m ∧ Q (.bl true) H
theorem sc_is_edge : FnScope ["value", "many"] ["value", "many"] (defScope (topS 9)) := ⟨rfl, rfl, rfl, by decide +kernel, rfl, by decide +kernel, by decide +kernel⟩
theorem ok_is_edge (B : Blt mg) (F : FnP K "is_edge" 9 f fd) (Cis_in : Cal P w K mg base 1 "is_in" ["value", "least", "most"] spIsIn) : FnOk P w K mg base CX0 2 f fd ["value", "many"] spIsEdge := by
  refine F.ok sc_is_edge (fun vs H Q E h => ?_) (fun cdv A outer s H vs Q E hr h => ?_)
  · obtain ⟨a, x, y, m, rfl, _⟩ := h
    rfl
  obtain ⟨a, x, y, m, rfl, ha, h1, h2, h3, q⟩ := h
  refine ⟨_, PSs.nox (pss_cons (ps_if (PW.pt (pw_or (pt_not (pt_val (pe_callB call_isi (by rfl) B.isi boot_isinstance (pa_cons (pv 0) (pa_cons (pe_bltn (v := .ty "tuple") (by rfl) B.tup boot_tuple rfl) pa_nil))))) (pw_or1 (pt_cmpR op_ne (pe_callB call_len_seq (by rfl) B.len boot_len (pa_cons (pv 0) pa_nil)) pe_int (nomark _)))))
      (pss_one (ps_ret pe_bl))
      pss_nil)
    (pss_one (ps_ret (pe_and (pe_cal Cis_in hr (pa_cons (pe_ix ix_tup (pv 0) pe_int (fun _ _ => rfl)) (pa_cons pe_int (pa_cons (pe_op op_sub (pv 1) pe_int) pa_nil)))) (pe_one (pe_cal Cis_in hr (pa_cons (pe_ix ix_tup (pv 0) pe_int (fun _ _ => rfl)) (pa_cons (pe_op op_add (pe_ix ix_tup (pv 0) pe_int (fun _ _ => rfl)) pe_int) (pa_cons (pe_op op_sub (pv 1) pe_int) pa_nil))))))))), ?_⟩
  refine ⟨_, rfl, ?_⟩
  refine ⟨_, _, _, _, true, rfl, .ty _, .base (.tup ha), kTT, _, rfl, iteF ?_⟩
  refine ⟨_, rfl, a, _, rfl, .inr (SqT.of ha), rfl, _, rfl, iteF ?_⟩
  refine ⟨_, rfl, a, _, 0, .int x, rfl, rfl, SqT.of ha, rfl, _, rfl, _, _, rfl, rfl, x, 0, m - 1, rfl, _, rfl, ?_⟩
  rw [decide_eq_true (show (0 : Int) ≤ x ∧ x ≤ m - 1 by omega)]
  refine iteT ⟨_, rfl, a, _, 1, .int y, rfl, rfl, SqT.of ha, rfl, _, rfl, a, _, 0, .int x, rfl, rfl, SqT.of ha, rfl, _, _, rfl, rfl, _, rfl, _, _, rfl, rfl, y, x + 1, m - 1, rfl, ?_⟩
  rw [decide_eq_true (show x + 1 ≤ y ∧ y ≤ m - 1 by omega)]
  exact q
end
end Ck

namespace Ck
open PySem PySem.Spec PyProof.Rows L2
theorem lexAt_up (e r : Nat → Bool) (z : Bool) : ∀ (k i : Nat), Ob.lexAt e r z (i + 1) k = Ob.lexAt (fun j => e (j + 1)) (fun j => r (j + 1)) z i k
  | 0, _ => rfl
  | k + 1, i => by
    rw [Ob.lexAt_succ, Ob.lexAt_succ, lexAt_up e r z k (i + 1)]
theorem lexAt_lle : ∀ (ns ms : List Int), Ob.lexAt (fun j => decide (ns.getD j 0 = ms.getD j 0)) (fun j => decide (ns.getD j 0 ≤ ms.getD j 0)) (decide (ns.length ≤ ms.length)) 0 (min ns.length ms.length) = lle ns ms
  | [], ms => by
    rw [List.length_nil, Nat.zero_min, Ob.lexAt_zero]
    simp [lle]
  | n :: ns, [] => by
    rw [List.length_nil, Nat.min_zero, Ob.lexAt_zero]
    simp [lle]
  | n :: ns, m :: ms => by
    rw [List.length_cons, List.length_cons, Nat.succ_min_succ, Ob.lexAt_succ, lexAt_up]
    have ih := lexAt_lle ns ms
    have e1 : decide (ns.length + 1 ≤ ms.length + 1) = decide (ns.length ≤ ms.length) := decide_eq_decide.mpr (by omega)
    rw [e1]
    unfold lle
    by_cases e : n = m
    · rw [if_pos e, if_pos (by simpa using e)]
      exact ih
    · rw [if_neg e, if_neg (by simpa using e)]
      rfl
theorem TL.get {H : Hp} : ∀ {xs : List V} {Ss : List (List Int)} {i : Nat} {x : V}, TL H xs Ss → xs[i]? = some x → ∃ a S, x = V.ref a ∧ Ss[i]? = some S ∧ H a = some (.tup (S.map V.int))
  | _, _, _, _, .nil, e => by simp at e
  | _, _, 0, _, .cons r _, e => by
    simp at e
    subst e
    obtain ⟨a, e1, e2⟩ := r
    exact ⟨a, _, e1, by simp, e2⟩
  | _, _, i + 1, x, .cons _ t, e => by
    obtain ⟨a, S, h1, h2, h3⟩ := TL.get (i := i) (x := x) t (by simpa using e)
    exact ⟨a, S, h1, by simpa using h2, h3⟩
theorem TL.len {H : Hp} {xs : List V} {Ss : List (List Int)} (t : TL H xs Ss) : xs.length = Ss.length := Paired.length t
def AscE (E : Edges) : Prop := (E.map fun e => [e.1, e.2]).Pairwise fun a b => lle b a = false
section
variable {P : Program} {w : World} {K : PySem.W.Frag} {mg : Str → Option Value} {base : Heap} {f : Addr} {fd : FuncData}
def spNeedWeb : Sp := fun vs H Q _ => ∃ (a : Addr) (n : Nat) (E : Edges), vs = [.ref a] ∧ WebAt H a n E ∧ WebOk n E ∧ 1 ≤ n ∧ n ≤ 9 ∧ AscE E ∧ ∀ H', Same H H' → Q .non H'
theorem sc_need_web : FnScope ["web", "index", "one"] ["web"] (defScope (topS 10)) := ⟨rfl, rfl, rfl, by decide +kernel, rfl, by decide +kernel, by decide +kernel⟩
theorem ok_need_web (B : Blt mg) {t0 : Tok} (MOST_PLACES_mg : mg "MOST_PLACES" = some (.int 9 t0)) (F : FnP K "need_web" 10 f fd) (Cis_in : Cal P w K mg base 1 "is_in" ["value", "least", "most"] spIsIn)
    (Cis_edge : Cal P w K mg base 2 "is_edge" ["value", "many"] spIsEdge) : FnOk P w K mg base CX0 3 f fd ["web"] spNeedWeb := by
  refine F.ok sc_need_web (fun vs H Q E h => ?_) (fun cdv A outer s H vs Q E hr h => ?_)
  · obtain ⟨a, n, E, rfl, _⟩ := h
    rfl
  obtain ⟨a, n, Ed, rfl, W, ok, n1, n9, asc, q⟩ := h
  obtain ⟨et, xs, ha, he, tl⟩ := W.ex
  refine ⟨_, PSs.nox (pss_cons (ps_if (PW.pt (pw_or (pt_not (pt_val (pe_callB call_isi (by rfl) B.isi boot_isinstance (pa_cons (pv 0) (pa_cons (pe_bltn (v := .ty "tuple") (by rfl) B.tup boot_tuple rfl) pa_nil))))) (pw_or (pt_cmpR op_ne (pe_callB call_len_seq (by rfl) B.len boot_len (pa_cons (pv 0) pa_nil)) pe_int (nomark _)) (pw_or1 (pt_not (pt_val (pe_cal Cis_in hr (pa_cons (pe_ix ix_tup (pv 0) pe_int (fun _ _ => rfl)) (pa_cons pe_int (pa_cons (pe_glob (v := .int 9) rfl MOST_PLACES_mg ⟨_, rfl⟩) pa_nil))))))))))
      (pss_one ps_never)
      pss_nil)
    (pss_cons (ps_if (pt_not (pt_val (pe_callB call_isi (by rfl) B.isi boot_isinstance (pa_cons (pe_ix ix_tup (pv 0) pe_int (fun _ _ => rfl)) (pa_cons (pe_bltn (v := .ty "tuple") (by rfl) B.tup boot_tuple rfl) pa_nil)))))
      (pss_one ps_never)
      pss_nil)
    (pss_one (ps_for PassesOwn.never rfl (pi_enumT (by rfl) B.enum (pa_cons (pe_ix ix_tup (pv 0) pe_int (fun _ _ => rfl)) pa_nil)) (pg_tup (by rfl) (pgs_cons (pg_name (i := 1) sc_need_web.nd rfl (.inl rfl)) (pgs_cons (pg_name (i := 2) sc_need_web.nd rfl (.inl rfl)) pgs_nil)))
      (pss_one (ps_if (PW.pt (pw_or (pt_not (pt_val (pe_cal Cis_edge hr (pa_cons (pv 2) (pa_cons (pe_ix ix_tup (pv 0) pe_int (fun _ _ => rfl)) pa_nil))))) (pw_or1 (PW.pt (pw_and (pt_cmpR op_gt (pv 1) pe_int (nomark _)) (pw_and1 (pt_cmpR (op_leT hr.units0) (pv 2) (pe_ix ix_tup (pe_ix ix_tup (pv 0) pe_int (fun _ _ => rfl)) (pe_op op_sub (pv 1) pe_int) (fun _ _ => rfl)) (nomark _))))))))
        (pss_one ps_never)
        pss_nil)))))), ?_⟩
  refine ⟨_, rfl, _, _, _, _, true, rfl, .ty _, .base (.tup ha), kTT, _, rfl, iteF ?_⟩
  refine ⟨_, rfl, a, _, rfl, .inr (SqT.of ha), rfl, _, rfl, iteF ?_⟩
  refine ⟨_, rfl, a, _, 0, .int n, rfl, rfl, SqT.of ha, rfl, (n : Int), 1, 9, rfl, ?_⟩
  rw [decide_eq_true (show (1 : Int) ≤ n ∧ (n : Int) ≤ 9 by omega)]
  refine ⟨_, rfl, iteF ?_⟩
  refine ⟨_, rfl, a, _, 1, .ref et, rfl, rfl, SqT.of ha, rfl, _, _, _, _, true, rfl, .ty _, .base (.tup he), kTT, _, rfl, iteF ?_⟩
  refine ⟨_, rfl, a, _, 1, .ref et, rfl, rfl, SqT.of ha, rfl, et, xs, rfl, SqT.of he, ?_⟩
  refine for_it (walk_enumT (xs := xs)) (fun i σ H' => ∃ y1 y2, σ = [some (.ref a), y1, y2] ∧ Same H H') ⟨none, none, rfl, Same.refl H⟩ (fun i σ H' _ ⟨_, _, _, sm⟩ => SqT.of (sm _ _ he)) ?_ ?_
  · rintro i x σ H1 H2 hi ⟨y1, y2, rfl, sm⟩ ⟨T, z, u, rfl, hT, rfl, ez, eu⟩
    cases ez
    have sm2 : Same H (upd H1 T (.tup [.int (i : Nat), u])) := sm.trans (same_upd hT)
    have eu : xs[i]? = some u := eu
    obtain ⟨ea, S, rfl, hS, hea⟩ := TL.get (TL.same sm2 tl) eu
    rw [List.getElem?_map] at hS
    cases ee : Ed[i]? with
    | none => rw [ee] at hS; cases hS
    | some e =>
      rw [ee] at hS
      cases hS
      have eok := ok.ok e (List.mem_of_getElem? ee)
      refine ⟨T, _, rfl, SqT.of upd_same, rfl, _, _, rfl, _, _, rfl, rfl, ?_⟩
      refine ⟨_, rfl, _, rfl, a, _, 0, .int n, rfl, rfl, SqT.of (sm2 _ _ ha), rfl, ea, e.1, e.2, (n : Int), rfl, hea, eok.1, eok.2.1, eok.2.2, _, rfl, iteF ?_⟩
      refine ⟨_, rfl, _, _, rfl, rfl, _, rfl, ite2 (fun c => ?_) (fun c => ?_)⟩
      · have c1 : (0 : Int) < (i : Nat) := of_decide_eq_true c
        obtain ⟨j, rfl⟩ : ∃ j, i = j + 1 := ⟨i - 1, by omega⟩
        have hj : j < xs.length := by omega
        have ej := List.getElem?_eq_getElem hj
        obtain ⟨ea', S', ex', hS', hea'⟩ := TL.get (TL.same sm2 tl) ej
        rw [ex'] at ej
        refine ⟨_, rfl, _, rfl, a, _, 1, .ref et, rfl, rfl, SqT.of (sm2 _ _ ha), rfl, _, rfl, _, _, rfl, rfl, et, xs, _, .ref ea', rfl, rfl, SqT.of (sm2 _ _ he), ?_, ?_⟩
        · rw [show ((j + 1 : Nat) : Int) - 1 = (j : Int) by omega]
          exact atI_nat ej
        · refine ⟨ea, ea', [e.1, e.2], S', rfl, rfl, SqT.of hea, SqT.of hea', ?_⟩
          rw [lexAt_lle]
          have l0 : lle [e.1, e.2] S' = false := by
            have g1 : (Ed.map fun e => [e.1, e.2])[j + 1]? = some [e.1, e.2] := by
              rw [List.getElem?_map, ee]
              rfl
            have hj1 : j < (Ed.map fun e => [e.1, e.2]).length := (List.getElem?_eq_some_iff.mp hS').1
            have hj2 : j + 1 < (Ed.map fun e => [e.1, e.2]).length := (List.getElem?_eq_some_iff.mp g1).1
            have z := List.pairwise_iff_getElem.mp asc j (j + 1) hj1 hj2 (Nat.lt_succ_self j)
            rw [List.getElem?_eq_getElem hj1] at hS'
            rw [List.getElem?_eq_getElem hj2] at g1
            rw [Option.some.inj hS', Option.some.inj g1] at z
            exact z
          rw [l0]
          exact ⟨_, rfl, iteF ⟨_, _, rfl, sm2⟩⟩
      · exact iteF ⟨_, _, rfl, sm2⟩
  · rintro σ H' ⟨y1, y2, rfl, sm⟩
    exact q H' sm
def spNeedFull : Sp := fun vs H Q _ => ∃ (a l : Addr) (n : Nat) (E : Edges) (L : List Int), vs = [.ref a, .ref l] ∧ WebAt H a n E ∧ TupI H l L ∧ L.length = n ∧ (∀ x ∈ L, x = 0 ∨ x = 1) ∧ ∀ H', Same H H' → Q .non H'
theorem sc_need_full : FnScope ["web", "laying", "index", "one"] ["web", "laying"] (defScope (topS 11)) := ⟨rfl, rfl, rfl, by decide +kernel, rfl, by decide +kernel, by decide +kernel⟩
theorem ok_need_full (B : Blt mg) (F : FnP K "need_full" 11 f fd) (Cis_in : Cal P w K mg base 1 "is_in" ["value", "least", "most"] spIsIn) : FnOk P w K mg base CX0 3 f fd ["web", "laying"] spNeedFull := by
  refine F.ok sc_need_full (fun vs H Q E h => ?_) (fun cdv A outer s H vs Q E hr h => ?_)
  · obtain ⟨a, l, n, E, L, rfl, _⟩ := h
    rfl
  obtain ⟨a, l, n, Ed, L, rfl, W, hl, len, c01, q⟩ := h
  obtain ⟨et, xs, ha, he, tl⟩ := W.ex
  refine ⟨_, PSs.nox (pss_cons (ps_if (PW.pt (pw_or (pt_not (pt_val (pe_callB call_isi (by rfl) B.isi boot_isinstance (pa_cons (pv 1) (pa_cons (pe_bltn (v := .ty "tuple") (by rfl) B.tup boot_tuple rfl) pa_nil))))) (pw_or1 (pt_cmpR op_ne (pe_callB call_len_seq (by rfl) B.len boot_len (pa_cons (pv 1) pa_nil)) (pe_ix ix_tup (pv 0) pe_int (fun _ _ => rfl)) (nomark _)))))
      (pss_one ps_never)
      pss_nil)
    (pss_one (ps_for PassesOwn.never rfl (pi_enumT (by rfl) B.enum (pa_cons (pv 1) pa_nil)) (pg_tup (by rfl) (pgs_cons (pg_name (i := 2) sc_need_full.nd rfl (.inl rfl)) (pgs_cons (pg_name (i := 3) sc_need_full.nd rfl (.inl rfl)) pgs_nil)))
      (pss_one (ps_if (pt_not (pt_val (pe_cal Cis_in hr (pa_cons (pv 3) (pa_cons pe_int (pa_cons pe_int pa_nil))))))
        (pss_one ps_never)
        pss_nil))))), ?_⟩
  refine ⟨_, rfl, _, _, _, _, true, rfl, .ty _, .base (.tup hl), kTT, _, rfl, iteF ?_⟩
  refine ⟨_, rfl, l, _, rfl, .inr (SqT.of hl), _, rfl, a, _, 0, .int n, rfl, rfl, SqT.of ha, rfl, rfl, ?_⟩
  rw [List.length_map, len, decide_eq_true rfl]
  refine ⟨_, rfl, iteF ?_⟩
  refine ⟨_, rfl, l, _, rfl, SqT.of hl, ?_⟩
  refine for_it (walk_enumT (xs := L.map V.int)) (fun i σ H' => ∃ y1 y2, σ = [some (.ref a), some (.ref l), y1, y2] ∧ Same H H') ⟨none, none, rfl, Same.refl H⟩ (fun i σ H' _ ⟨_, _, _, sm⟩ => SqT.of (sm _ _ hl)) ?_ ?_
  · rintro i x σ H1 H2 hi ⟨y1, y2, rfl, sm⟩ ⟨T, z, u, rfl, hT, rfl, ez, eu⟩
    cases ez
    have sm2 : Same H (upd H1 T (.tup [.int (i : Nat), u])) := sm.trans (same_upd hT)
    have eu : (L.map V.int)[i]? = some u := eu
    rw [List.getElem?_map] at eu
    cases ee : L[i]? with
    | none => rw [ee] at eu; cases eu
    | some v =>
      rw [ee] at eu
      cases eu
      have cv := c01 v (List.mem_of_getElem? ee)
      refine ⟨T, _, rfl, SqT.of upd_same, rfl, _, _, rfl, _, _, rfl, rfl, ?_⟩
      refine ⟨_, rfl, v, 0, 1, rfl, ?_⟩
      rw [decide_eq_true (show (0 : Int) ≤ v ∧ v ≤ 1 by omega)]
      exact ⟨_, rfl, iteF ⟨_, _, rfl, sm2⟩⟩
  · rintro σ H' ⟨y1, y2, rfl, sm⟩
    exact q H' sm
structure Play (H : Hp) (a l : Addr) (E : Edges) (L : List Int) : Prop where
  web : WebAt H a L.length E
  ok : WebOk L.length E
  n1 : 1 ≤ L.length
  n6 : L.length ≤ 6
  asc : AscE E
  lay : TupI H l L
  c01 : ∀ x ∈ L, x = 0 ∨ x = 1
theorem Play.keep {H H' : Hp} {a l : Addr} {E : Edges} {L : List Int} (p : Play H a l E L) (t : ∀ b ys, H b = some (.tup ys) → H' b = some (.tup ys)) : Play H' a l E L :=
  ⟨p.web.keep t, p.ok, p.n1, p.n6, p.asc, t _ _ p.lay, p.c01⟩
theorem Play.same {H H' : Hp} {a l : Addr} {E : Edges} {L : List Int} (p : Play H a l E L) (s : Same H H') : Play H' a l E L := p.keep fun b ys q => s _ _ q
def spNeedBoth : Sp := fun vs H Q _ => ∃ (a l : Addr) (E : Edges) (L : List Int), vs = [.ref a, .ref l] ∧ Play H a l E L ∧ ∀ H', Same H H' → Q .non H'
theorem sc_need_both : FnScope ["web", "laying"] ["web", "laying"] (defScope (topS 12)) := ⟨rfl, rfl, rfl, by decide +kernel, rfl, by decide +kernel, by decide +kernel⟩
theorem ok_need_both (F : FnP K "need_both" 12 f fd) (Cneed_web : Cal P w K mg base 3 "need_web" ["web"] spNeedWeb) (Cneed_full : Cal P w K mg base 3 "need_full" ["web", "laying"] spNeedFull) : FnOk P w K mg base CX0 4 f fd ["web", "laying"] spNeedBoth := by
  refine F.ok sc_need_both (fun vs H Q E h => ?_) (fun cdv A outer s H vs Q E hr h => ?_)
  · obtain ⟨a, l, E, L, rfl, _⟩ := h
    rfl
  obtain ⟨a, l, Ed, L, rfl, p, q⟩ := h
  refine ⟨_, PSs.nox (pss_cons (ps_expr (pe_cal Cneed_web hr (pa_cons (pv 0) pa_nil)))
    (pss_one (ps_expr (pe_cal Cneed_full hr (pa_cons (pv 0) (pa_cons (pv 1) pa_nil)))))), ?_⟩
  refine ⟨_, rfl, a, L.length, Ed, rfl, p.web, p.ok, p.n1, Nat.le_trans p.n6 (by decide), p.asc, fun H1 s1 => ?_⟩
  exact ⟨_, rfl, _, rfl, a, l, L.length, Ed, L, rfl, p.web.same s1, s1 _ _ p.lay, rfl, p.c01, fun H2 s2 => q H2 (s1.trans s2)⟩
def spNeedPlay : Sp := fun vs H Q _ => ∃ (a l : Addr) (E : Edges) (L : List Int) (b : Bool), vs = [.ref a, .ref l, .bl b] ∧ Play H a l E L ∧ ∀ H', Same H H' → Q .non H'
theorem sc_need_play : FnScope ["web", "laying", "is_first"] ["web", "laying", "is_first"] (defScope (topS 20)) := ⟨rfl, rfl, rfl, by decide +kernel, rfl, by decide +kernel, by decide +kernel⟩
theorem ok_need_play (B : Blt mg) (F : FnP K "need_play" 20 f fd) (Cneed_both : Cal P w K mg base 4 "need_both" ["web", "laying"] spNeedBoth) : FnOk P w K mg base CX0 5 f fd ["web", "laying", "is_first"] spNeedPlay := by
  refine F.ok sc_need_play (fun vs H Q E h => ?_) (fun cdv A outer s H vs Q E hr h => ?_)
  · obtain ⟨a, l, E, L, b, rfl, _⟩ := h
    rfl
  obtain ⟨a, l, Ed, L, b, rfl, p, q⟩ := h
  refine ⟨_, PSs.nox (pss_cons (ps_expr (pe_cal Cneed_both hr (pa_cons (pv 0) (pa_cons (pv 1) pa_nil))))
    (pss_one (ps_if (pt_not (pt_val (pe_callB call_isi (by rfl) B.isi boot_isinstance (pa_cons (pv 2) (pa_cons (pe_bltn (v := .ty "bool") (by rfl) B.bool boot_bool rfl) pa_nil)))))
      (pss_one ps_never)
      pss_nil))), ?_⟩
  refine ⟨_, rfl, _, rfl, a, l, Ed, L, rfl, p, fun H1 s1 => ?_⟩
  exact ⟨_, rfl, _, _, _, _, true, rfl, .ty _, .base (.bl _), kBB, _, rfl, iteF (q H1 s1)⟩
end
end Ck

namespace Ck
open PySem PySem.Spec PyProof.Rows L2
theorem none_of {H H' : Hp} {p : Addr} (s : Same H H') (h : H' p = none) : H p = none := by
  cases e : H p with
  | none => rfl
  | some o => rw [s _ _ e] at h; cases h
def LcP (H1 : Hp) (D : Addr) (out : Nat → List V) (i : Nat) (H : Hp) : Prop := Same H1 H ∧ H D = some (.lst (out i))
theorem LcP.start {H1 : Hp} {D : Addr} {out : Nat → List V} (h : H1 D = none) (o : out 0 = []) : LcP H1 D out 0 (upd H1 D (.lst [])) := ⟨same_upd h, by rw [o]; exact upd_same⟩
theorem LcP.put {H1 H : Hp} {D : Addr} {out : Nat → List V} {i : Nat} {y : V} (fD : H1 D = none) (h : LcP H1 D out i H) (l : (out i).length ≤ 1000) (o : out (i + 1) = out i ++ [y]) :
    ∃ acc, H D = some (.lst acc) ∧ acc.length < sizeLine ∧ LcP H1 D out (i + 1) (upd H D (.lst (acc ++ [y]))) :=
  ⟨_, h.2, small1000 l, fun b u q => by rw [upd_ne (ne_of_none q fD)]; exact h.1 b u q, by rw [o]; exact upd_same⟩
theorem LcP.skip {H1 H : Hp} {D : Addr} {out : Nat → List V} {i : Nat} (h : LcP H1 D out i H) (o : out (i + 1) = out i) : LcP H1 D out (i + 1) H := ⟨h.1, by rw [o]; exact h.2⟩
theorem LcP.tmp {H1 H H' : Hp} {D : Addr} {out : Nat → List V} {i : Nat} (h : LcP H1 D out i H) (s : Same H H') : LcP H1 D out i H' := ⟨h.1.trans s, s _ _ h.2⟩
def outF {α : Type} (p : α → Bool) (f : α → V) (xs : List α) (i : Nat) : List V := ((xs.take i).filter p).map f
theorem outF_zero {α : Type} {p : α → Bool} {f : α → V} {xs : List α} : outF p f xs 0 = [] := rfl
theorem take_push {α : Type} {xs : List α} {i : Nat} {x : α} (h : xs[i]? = some x) : xs.take (i + 1) = xs.take i ++ [x] := by
  rw [List.take_succ, h]
  rfl
theorem outF_yes {α : Type} {p : α → Bool} {f : α → V} {xs : List α} {i : Nat} {x : α} (h : xs[i]? = some x) (hp : p x = true) : outF p f xs (i + 1) = outF p f xs i ++ [f x] := by
  unfold outF
  rw [take_push h, List.filter_append, List.map_append]
  simp [hp]
theorem outF_no {α : Type} {p : α → Bool} {f : α → V} {xs : List α} {i : Nat} {x : α} (h : xs[i]? = some x) (hp : p x = false) : outF p f xs (i + 1) = outF p f xs i := by
  unfold outF
  rw [take_push h, List.filter_append, List.map_append]
  simp [hp]
theorem outF_len {α : Type} {p : α → Bool} {f : α → V} {xs : List α} {i : Nat} (h : xs.length ≤ 1000) : (outF p f xs i).length ≤ 1000 := by
  unfold outF
  rw [List.length_map]
  exact Nat.le_trans (List.length_filter_le _ _) (Nat.le_trans (by simp; omega) h)
theorem outF_all {α : Type} {p : α → Bool} {f : α → V} {xs : List α} : outF p f xs xs.length = (xs.filter p).map f := by
  unfold outF
  rw [List.take_length]
theorem inV_int (k : Int) : ∀ S : List Int, inV (.int k) (S.map V.int) = decide (k ∈ S)
  | [] => by simp [inV]
  | x :: S => by
    have ih := inV_int k S
    unfold inV at ih ⊢
    rw [List.map_cons, List.any_cons, ih]
    show ((x == k) || decide (k ∈ S)) = _
    by_cases e : x = k
    · subst e; simp
    · have e2 : ¬ k = x := fun z => e z.symm
      simp [e, e2]
theorem flat_ints (S : List Int) : (S.map V.int).all flatV = true := by
  rw [List.all_eq_true]
  intro x hx
  obtain ⟨i, _, rfl⟩ := List.mem_map.mp hx
  rfl
theorem edges_len {n : Nat} {E : Edges} (ok : WebOk n E) (asc : AscE E) : E.length ≤ n * n := by
  have nd : E.Nodup := by
    refine (List.pairwise_map.mp asc).imp fun {a b} h e => by
      subst e
      have r : ∀ l : List Int, lle l l = true := fun l => by
        induction l with
        | nil => rfl
        | cons x l ih => unfold lle; rw [if_pos rfl]; exact ih
      rw [r] at h
      cases h
  have := nd_len (D := (rngI n).flatMap fun a => (rngI n).map fun b => (a, b)) nd fun e he => by
    have o := ok.ok e he
    rw [List.mem_flatMap]
    exact ⟨e.1, mem_rngI.mpr ⟨o.1, by omega⟩, List.mem_map.mpr ⟨e.2, mem_rngI.mpr ⟨by omega, o.2.2⟩, rfl⟩⟩
  refine Nat.le_trans this ?_
  have : ∀ l : List Int, (l.flatMap fun a => (rngI n).map fun b => (a, b)).length = l.length * n := fun l => by
    induction l with
    | nil => simp
    | cons x l ih => rw [List.flatMap_cons, List.length_append, ih, List.length_map, rngI_len, List.length_cons, Nat.succ_mul]; omega
  rw [this, rngI_len]
  exact Nat.le_refl _
theorem Play.elen {H : Hp} {a l : Addr} {E : Edges} {L : List Int} (p : Play H a l E L) : E.length ≤ 1000 :=
  Nat.le_trans (edges_len p.ok p.asc) (Nat.le_trans (Nat.mul_le_mul p.n6 p.n6) (by decide))
def cv (x : Int) : V := if x = 2 then .non else .int x
section
variable {P : Program} {w : World} {K : PySem.W.Frag} {mg : Str → Option Value} {base : Heap} {f : Addr} {fd : FuncData}
def spNb : Sp := fun vs H Q _ => ∃ (a : Addr) (n : Nat) (E : Edges) (k : Int), vs = [.ref a, .int k] ∧ WebAt H a n E ∧ E.length ≤ 1000 ∧
  ∀ H' p, Same H H' → H p = none → LstI H' p (srt (nb E k)) → Q (.ref p) H'
theorem sc_neighbours_in : FnScope ["web", "place", "a", "b"] ["web", "place"] (defScope (topS 13)) := ⟨rfl, rfl, rfl, by decide +kernel, rfl, by decide +kernel, by decide +kernel⟩
theorem ok_neighbours_in (B : Blt mg) (F : FnP K "neighbours_in" 13 f fd) : FnOk P w K mg base CX0 1 f fd ["web", "place"] spNb := by
  refine F.ok sc_neighbours_in (fun vs H Q E h => ?_) (fun cdv A outer s H vs Q E hr h => ?_)
  · obtain ⟨a, n, E, k, rfl, _⟩ := h
    rfl
  obtain ⟨a, n, Ed, k, rfl, W, el, q⟩ := h
  obtain ⟨et, xs, ha, he, tl⟩ := W.ex
  have xl : xs.length = Ed.length := by rw [TL.len tl, List.length_map]
  refine ⟨_, PSs.nox (pss_one (ps_ret (pe_callB cr_sortI0 (by rfl) B.sorted boot_sorted (pa_cons (pe_lc (own := [("a", 2), ("b", 3)]) (g := gTup K 2 (gCons (gName 2) (gCons (gName 3) gNil))) (by rfl) sc_neighbours_in.nd (pi_tup (pe_ix ix_tup (pv 0) pe_int (fun _ _ => rfl))) (blkOk_by (own := [("a", 2), ("b", 3)]) (N := ["web", "place", "a", "b"]) (sc := defScope (topS 13)) (by decide +kernel)) (fun _ _ _ _ _ => (pg_tup (by rfl) (pgs_cons (pg_name (i := 2) sc_neighbours_in.nd rfl (by first | exact .inl rfl | exact .inr rfl)) (pgs_cons (pg_name (i := 3) sc_neighbours_in.nd rfl (by first | exact .inl rfl | exact .inr rfl)) pgs_nil)))) (fun _ _ _ _ _ => (pts_one (pt_cmpR (r := rIn K false) op_in_seq (pv 1) (pe_tup (pa_cons (pv 2) (pa_cons (pv 3) pa_nil))) (by rfl)))) (fun _ _ _ _ _ => (pe_op op_sub (pe_op op_add (pv 2) (pv 3)) (pv 1)))) pa_nil)))), ?_⟩
  refine ⟨_, rfl, a, _, 1, .ref et, rfl, rfl, SqT.of ha, rfl, et, rfl, ⟨xs, SqT.of he⟩, fun D hD => ?_⟩
  refine lc_it (walk_tup (xs := xs)) (LcP H D (outF (fun e : Int × Int => decide (e.1 = k) || decide (e.2 = k)) (fun e => .int (e.1 + e.2 - k)) Ed)) (LcP.start hD outF_zero) (fun i H1 _ p => SqT.of (p.1 _ _ he)) ?_ ?_
  · rintro i x H1 H2 hi p ⟨rfl, ex⟩
    obtain ⟨ea, S, rfl, hS, hea⟩ := TL.get (TL.same p.1 tl) ex
    rw [List.getElem?_map] at hS
    cases ee : Ed[i]? with
    | none => rw [ee] at hS; cases hS
    | some e =>
      rw [ee] at hS
      cases hS
      refine ⟨ea, _, rfl, SqT.of hea, rfl, _, _, rfl, _, _, rfl, rfl, rfl, ?_⟩
      refine ⟨_, rfl, _, rfl, _, rfl, small (Nat.le_of_ble_eq_true rfl), fun T hT => ⟨T, [.int e.1, .int e.2], rfl, .inr (SqT.of upd_same), rfl, rfl, _, rfl, ?_⟩⟩
      have p2 := p.tmp (same_upd (o := .tup [.int e.1, .int e.2]) hT)
      have ei : inV (.int k) [.int e.1, .int e.2] = (decide (e.1 = k) || decide (e.2 = k)) := by
        have := inV_int k [e.1, e.2]
        rw [show ([V.int e.1, V.int e.2]) = [e.1, e.2].map V.int from rfl, this]
        rw [Bool.eq_iff_iff]
        simp only [decide_eq_true_eq, Bool.or_eq_true, List.mem_cons, List.not_mem_nil, or_false]
        exact ⟨fun h => h.imp Eq.symm Eq.symm, fun h => h.imp Eq.symm Eq.symm⟩
      rw [ei]
      refine ite2 (fun c => ?_) (fun c => ?_)
      · exact ⟨_, rfl, _, rfl, _, _, rfl, rfl, _, rfl, _, _, rfl, rfl, LcP.put hD p2 (outF_len el) (outF_yes ee c)⟩
      · exact LcP.skip p2 (outF_no ee (by simpa using c))
  · rintro H1 p
    rw [xl] at p
    have pd := p.2
    rw [outF_all] at pd
    have e2 : ((Ed.filter fun e : Int × Int => decide (e.1 = k) || decide (e.2 = k)).map fun e => V.int (e.1 + e.2 - k)) = (nb Ed k).map V.int := by
      unfold nb
      rw [List.map_map]
      rfl
    rw [e2] at pd
    exact ⟨D, nb Ed k, rfl, .inl (SqL.of pd), fun q1 hq1 => q _ q1 (p.1.trans (same_upd hq1)) (none_of p.1 hq1) upd_same⟩
def spHeads : Sp := fun vs H Q _ => ∃ (l : Addr) (B : List Int), vs = [.ref l] ∧ H l = some (.tup (B.map cv)) ∧ B.length ≤ 1000 ∧ ∀ H' p, Same H H' → LstI H' p (heads B) → Q (.ref p) H'
theorem sc_heads_in : FnScope ["laying", "k", "one"] ["laying"] (defScope (topS 14)) := ⟨rfl, rfl, rfl, by decide +kernel, rfl, by decide +kernel, by decide +kernel⟩
theorem ok_heads_in (B : Blt mg) (F : FnP K "heads_in" 14 f fd) : FnOk P w K mg base CX0 1 f fd ["laying"] spHeads := by
  refine F.ok sc_heads_in (fun vs H Q E h => ?_) (fun cdv A outer s H vs Q E hr h => ?_)
  · obtain ⟨l, Bs, rfl, _⟩ := h
    rfl
  obtain ⟨l, Bs, rfl, hl, bl, q⟩ := h
  refine ⟨_, PSs.nox (pss_one (ps_ret (pe_lc (own := [("k", 1), ("one", 2)]) (g := gTup K 2 (gCons (gName 1) (gCons (gName 2) gNil))) (by rfl) sc_heads_in.nd (pi_enumT (by rfl) B.enum (pa_cons (pv 0) pa_nil)) (blkOk_by (own := [("k", 1), ("one", 2)]) (N := ["laying", "k", "one"]) (sc := defScope (topS 14)) (by decide +kernel)) (fun _ _ _ _ _ => (pg_tup (by rfl) (pgs_cons (pg_name (i := 1) sc_heads_in.nd rfl (by first | exact .inl rfl | exact .inr rfl)) (pgs_cons (pg_name (i := 2) sc_heads_in.nd rfl (by first | exact .inl rfl | exact .inr rfl)) pgs_nil)))) (fun _ _ _ _ _ => (pts_one (pt_cmpR op_eq (pv 2) pe_int (nomark _)))) (fun _ _ _ _ _ => (pv 1))))), ?_⟩
  refine ⟨_, rfl, l, _, rfl, SqT.of hl, fun D hD => ?_⟩
  refine lc_it (walk_enumT (xs := Bs.map cv)) (LcP H D (outF (fun k : Nat => decide (Bs.getD k 0 = 1)) (fun k : Nat => .int (k : Int)) (List.range Bs.length))) (LcP.start hD outF_zero) (fun i H1 _ p => SqT.of (p.1 _ _ hl)) ?_ ?_
  · rintro i x H1 H2 hi p ⟨T, z, u, rfl, hT, rfl, ez, eu⟩
    cases ez
    have eu : (Bs.map cv)[i]? = some u := eu
    rw [List.length_map] at hi
    rw [List.getElem?_map, List.getElem?_eq_getElem hi] at eu
    cases eu
    have eg : Bs.getD i 0 = Bs[i] := by simp [hi]
    have er : (List.range Bs.length)[i]? = some i := by simp [hi]
    have p2 := p.tmp (same_upd (o := .tup [.int (i : Nat), cv Bs[i]]) hT)
    refine ⟨T, _, rfl, SqT.of upd_same, rfl, _, _, rfl, _, _, rfl, rfl, rfl, ?_⟩
    have e1 : scal (cv Bs[i]) (.int 1) = true ∧ decide (cv Bs[i] = .int 1) = decide (Bs[i] = 1) := by
      unfold cv
      split
      · rename_i c
        refine ⟨rfl, ?_⟩
        rw [c]
        rfl
      · exact ⟨rfl, dec_int⟩
    refine ⟨_, rfl, e1.1, _, rfl, ?_⟩
    rw [e1.2]
    refine ite2 (fun c => ?_) (fun c => ?_)
    · refine ⟨_, rfl, LcP.put hD p2 (outF_len (by simpa using bl)) (outF_yes er ?_)⟩
      rw [eg]
      exact c
    · refine LcP.skip p2 (outF_no er ?_)
      rw [eg]
      exact Bool.eq_false_iff.mpr c
  · rintro H1 p
    refine q H1 D p.1 ?_
    have pd := p.2
    rw [List.length_map] at pd
    have e2 : outF (fun k : Nat => decide (Bs.getD k 0 = 1)) (fun k : Nat => .int (k : Int)) (List.range Bs.length) Bs.length = (heads Bs).map V.int := by
      have z := outF_all (p := fun k : Nat => decide (Bs.getD k 0 = 1)) (f := fun k : Nat => V.int (k : Int)) (xs := List.range Bs.length)
      rw [List.length_range] at z
      rw [z]
      unfold heads
      rw [List.map_map]
      rfl
    rw [e2] at pd
    exact pd
def spMore : Sp := fun vs H Q _ => ∃ (s : Addr) (S : List Int) (k : Int), vs = [.ref s, .int k] ∧ TupI H s S ∧ S.length ≤ 900 ∧ ∀ H' p, Same H H' → TupI H' p (more S k) → Q (.ref p) H'
theorem sc_more : FnScope ["state", "place"] ["state", "place"] (defScope (topS 18)) := ⟨rfl, rfl, rfl, by decide +kernel, rfl, by decide +kernel, by decide +kernel⟩
theorem ok_more (B : Blt mg) (F : FnP K "more" 18 f fd) : FnOk P w K mg base CX0 1 f fd ["state", "place"] spMore := by
  refine F.ok sc_more (fun vs H Q E h => ?_) (fun cdv A outer s H vs Q E hr h => ?_)
  · obtain ⟨l, S, k, rfl, _⟩ := h
    rfl
  obtain ⟨l, S, k, rfl, hl, sl, q⟩ := h
  refine ⟨_, PSs.nox (pss_one (ps_ret (pe_callTy call_tuple_of (by rfl) B.tup boot_tuple (pa_cons (pe_callB cr_sortI0 (by rfl) B.sorted boot_sorted (pa_cons (pe_op op_catA (pv 0) (pe_tup (pa_cons (pv 1) pa_nil))) pa_nil)) pa_nil)))), ?_⟩
  have fin : ∀ (a : Addr) (H1 : Hp), Same H H1 → H1 a = some (.tup ((S ++ [k]).map V.int)) → ∃ (a' : Addr) (ns : List Int), [V.ref a] = [V.ref a'] ∧ (SqL K H1 a' (ns.map V.int) ∨ SqT K H1 a' (ns.map V.int)) ∧
      ∀ p, H1 p = none → ∃ p' ys, [V.ref p] = [V.ref p'] ∧ ((SqL K (upd H1 p (.lst ((srt ns).map V.int))) p' ys ∧ ∀ l, upd H1 p (.lst ((srt ns).map V.int)) l = none → Q (.ref l) (upd (upd H1 p (.lst ((srt ns).map V.int))) l (.tup ys))) ∨ (SqT K (upd H1 p (.lst ((srt ns).map V.int))) p' ys ∧ Q (.ref p') (upd H1 p (.lst ((srt ns).map V.int))))) := by
    intro a H1 s1 ha
    refine ⟨a, S ++ [k], rfl, .inr (SqT.of ha), fun p hp => ⟨p, _, rfl, .inl ⟨SqL.of upd_same, fun t ht => ?_⟩⟩⟩
    exact q _ t ((s1.trans (same_upd hp)).trans (same_upd ht)) upd_same
  refine ⟨_, rfl, _, rfl, small (Nat.le_of_ble_eq_true rfl), fun T hT => ⟨l, T, _, _, rfl, rfl, SqT.of (same_upd hT _ _ hl), SqT.of upd_same, ?_, fun e => ?_, fun _ e => absurd e (by simp), fun e1 e2 p hp => ?_⟩⟩
  · rw [List.length_map]
    exact small (by simp; omega)
  · have e0 : S = [] := by simpa using e
    subst e0
    exact fin T _ (same_upd hT) upd_same
  · refine fin p _ ((same_upd hT).trans (same_upd hp)) ?_
    rw [upd_same, List.map_append]
    rfl
end
end Ck

namespace Ck
open PySem PySem.Spec PyProof.Rows L2
theorem cnt_srt (E : Edges) (S : List Int) (k : Int) : ((srt (nb E k)).filter fun x => decide (x ∈ S)).length = cnt E S k := by
  rw [← List.countP_eq_length_filter]
  exact (srt_perm (nb E k)).countP_eq _
theorem nb_len (E : Edges) (k : Int) : (srt (nb E k)).length ≤ E.length := by
  rw [(srt_perm _).length_eq]
  unfold nb
  rw [List.length_map]
  exact List.length_filter_le _ _
def outB (E : Edges) (L S : List Int) (i : Nat) : List V := ((beh E L S).take i).map cv
theorem outB_zero {E : Edges} {L S : List Int} : outB E L S 0 = [] := rfl
theorem outB_push {E : Edges} {L S : List Int} {i : Nat} (h : i < L.length) : outB E L S (i + 1) = outB E L S i ++ [cv (coin E L S i)] := by
  have hb : i < (beh E L S).length := by rw [beh_len]; exact h
  have e : (beh E L S)[i]? = some (coin E L S i) := by
    rw [← beh_at (E := E) (S := S) h, List.getD_eq_getElem?_getD, List.getElem?_eq_getElem hb]
    rfl
  unfold outB
  rw [take_push e, List.map_append]
  rfl
theorem outB_all {E : Edges} {L S : List Int} : outB E L S L.length = (beh E L S).map cv := by
  unfold outB
  rw [← beh_len E L S, List.take_length]
theorem outB_len {E : Edges} {L S : List Int} {i : Nat} (h : L.length ≤ 1000) : (outB E L S i).length ≤ 1000 := by
  unfold outB
  rw [List.length_map, List.length_take, beh_len]
  omega
section
variable {P : Program} {w : World} {K : PySem.W.Frag} {mg : Str → Option Value} {base : Heap} {f : Addr} {fd : FuncData}
def spBehind : Sp := fun vs H Q _ => ∃ (a l s : Addr) (E : Edges) (L S : List Int), vs = [.ref a, .ref l, .ref s] ∧ Play H a l E L ∧ TupI H s S ∧
  ∀ H' p, Same H H' → H' p = some (.tup ((beh E L S).map cv)) → Q (.ref p) H'
theorem sc_behind_in : FnScope ["web", "laying", "state", "found", "k", "one", "turns", "x"] ["web", "laying", "state"] (defScope (topS 16)) := ⟨rfl, rfl, rfl, by decide +kernel, rfl, by decide +kernel, by decide +kernel⟩
theorem ok_behind_in (B : Blt mg) (F : FnP K "behind_in" 16 f fd) (Cneighbours_in : Cal P w K mg base 1 "neighbours_in" ["web", "place"] spNb) : FnOk P w K mg base CX0 2 f fd ["web", "laying", "state"] spBehind := by
  refine F.ok sc_behind_in (fun vs H Q E h => ?_) (fun cdv A outer s H vs Q E hr h => ?_)
  · obtain ⟨a, l, s, E, L, S, rfl, _⟩ := h
    rfl
  obtain ⟨a, l, s, Ed, L, S, rfl, W, hs, q⟩ := h
  refine ⟨_, PSs.nox (pss_cons (ps_set (i := 3) sc_behind_in.nd rfl (.inl rfl) (pe_lst pa_nil))
    (pss_cons (ps_for PassesOwn.never rfl (pi_enumT (by rfl) B.enum (pa_cons (pv 1) pa_nil)) (pg_tup (by rfl) (pgs_cons (pg_name (i := 4) sc_behind_in.nd rfl (.inl rfl)) (pgs_cons (pg_name (i := 5) sc_behind_in.nd rfl (.inl rfl)) pgs_nil)))
      (pss_cons (ps_set (i := 6) sc_behind_in.nd rfl (.inl rfl) (pe_callB call_len_seq (by rfl) B.len boot_len (pa_cons (pe_lc (own := [("x", 7)]) (g := gName 7) (by rfl) sc_behind_in.nd (pi_list (pe_cal Cneighbours_in hr (pa_cons (pv 0) (pa_cons (pv 4) pa_nil)))) (blkOk_by (own := [("x", 7)]) (N := ["web", "laying", "state", "found", "k", "one", "turns", "x"]) (sc := defScope (topS 16)) (by decide +kernel)) (fun _ _ _ _ _ => (pg_name (i := 7) sc_behind_in.nd rfl (by first | exact .inl rfl | exact .inr rfl))) (fun _ _ _ _ _ => (pts_one (pt_cmpR (r := rIn K false) op_in_seq (pv 7) (pv 2) (by rfl)))) (fun _ _ _ _ _ => (pv 7))) pa_nil)))
      (pss_one (ps_expr (pe_bm PySem.F.plainAttrs_list PySem.F.slot_list_append PySem.F.type_list_append mt_append (pv 3) (pa_cons (pe_ifExp (pt_cmpR op_in_seq (pv 4) (pv 2) (by rfl)) pe_non (pe_op op_mod (pe_op op_add (pv 5) (pv 6)) pe_int)) pa_nil))))))
    (pss_one (ps_ret (pe_callTy call_tuple_of (by rfl) B.tup boot_tuple (pa_cons (pv 3) pa_nil)))))), ?_⟩
  refine ⟨small (Nat.le_of_ble_eq_true rfl), fun p hp => ?_⟩
  refine ⟨_, rfl, l, _, rfl, SqT.of (same_upd hp _ _ W.lay), ?_⟩
  refine for_it (walk_enumT (xs := L.map V.int)) (fun i σ H' => (∃ y4 y5 y6, σ = [some (.ref a), some (.ref l), some (.ref s), some (.ref p), y4, y5, y6, none]) ∧ LcP H p (outB Ed L S) i H') ⟨⟨none, none, none, rfl⟩, LcP.start hp outB_zero⟩ (fun i σ H' _ z => SqT.of (z.2.1 _ _ W.lay)) ?_ ?_
  · rintro i x σ H1 H2 hi ⟨⟨y4, y5, y6, rfl⟩, lp⟩ ⟨T, z, u, rfl, hT, rfl, ez, eu⟩
    cases ez
    have eu : (L.map V.int)[i]? = some u := eu
    rw [List.length_map] at hi
    rw [List.getElem?_map, List.getElem?_eq_getElem hi] at eu
    cases eu
    have lp := lp.tmp (same_upd (o := .tup [.int (i : Nat), .int L[i]]) hT)
    have W2 := W.same lp.1
    refine ⟨T, _, rfl, SqT.of upd_same, rfl, _, _, rfl, _, _, rfl, rfl, ?_⟩
    refine ⟨_, rfl, _, rfl, a, L.length, Ed, (i : Nat), rfl, W2.web, W2.elen, fun H3 n1 s3 f3 l3 => ?_⟩
    refine ⟨n1, rfl, ⟨_, SqL.of l3⟩, fun D hD => ?_⟩
    refine lc_it (walk_list (xs := (srt (nb Ed (i : Nat))).map V.int)) (LcP H3 D (outF (fun x : Int => decide (x ∈ S)) V.int (srt (nb Ed (i : Nat))))) (LcP.start hD outF_zero) (fun j H1 _ p => SqL.of (p.1 _ _ l3)) ?_ ?_
    · rintro j x H4 H5 hj p4 ⟨rfl, ex⟩
      rw [List.length_map] at hj
      rw [List.getElem?_map, List.getElem?_eq_getElem hj] at ex
      cases ex
      have ee : (srt (nb Ed (i : Nat)))[j]? = some (srt (nb Ed (i : Nat)))[j] := List.getElem?_eq_getElem hj
      refine ⟨rfl, _, rfl, _, rfl, s, _, rfl, .inr (SqT.of (p4.1 _ _ (s3 _ _ (lp.1 _ _ hs)))), rfl, flat_ints S, _, rfl, ?_⟩
      rw [inV_int]
      have el : (srt (nb Ed (i : Nat))).length ≤ 1000 := Nat.le_trans (nb_len Ed _) W.elen
      refine ite2 (fun c => ?_) (fun c => ?_)
      · exact ⟨_, rfl, LcP.put hD p4 (outF_len el) (outF_yes ee c)⟩
      · exact LcP.skip p4 (outF_no ee (Bool.eq_false_iff.mpr c))
    · rintro H4 p4
      have pd := p4.2
      rw [List.length_map, outF_all] at pd
      have sm := s3.trans p4.1
      refine ⟨D, _, rfl, .inl (SqL.of pd), ?_⟩
      rw [List.length_map, cnt_srt]
      have lp2 := lp.tmp sm
      refine ⟨_, rfl, .inl ⟨rfl, _, SqL.of lp2.2⟩, _, rfl, _, rfl, s, _, rfl, .inr (SqT.of (lp2.1 _ _ hs)), rfl, flat_ints S, _, rfl, ?_⟩
      rw [inV_int]
      have ln : (outB Ed L S i).length ≤ 1000 := outB_len (Nat.le_trans W.n6 (by decide))
      refine ite2 (fun c => ?_) (fun c => ?_)
      · obtain ⟨acc, h1, h2, h3⟩ := lp2.put hp ln (outB_push hi)
        have e : cv (coin Ed L S i) = .non := by
          unfold coin
          rw [if_pos (of_decide_eq_true c)]
          rfl
        rw [e] at h3
        exact ⟨p, acc, _, rfl, rfl, h1, h2, ⟨_, _, _, rfl⟩, h3⟩
      · obtain ⟨acc, h1, h2, h3⟩ := lp2.put hp ln (outB_push hi)
        have e : cv (coin Ed L S i) = .int ((L[i] + (cnt Ed S (i : Nat) : Nat)) % 2) := by
          unfold coin
          rw [if_neg (fun z => c (decide_eq_true z))]
          have eg : L.getD i 0 = L[i] := by simp [hi]
          rw [eg]
          unfold cv
          rw [if_neg (by omega)]
        rw [e] at h3
        exact ⟨_, rfl, _, rfl, _, _, rfl, rfl, _, _, rfl, rfl, (show (0 : Int) < 2 by decide), p, acc, _, rfl, rfl, h1, h2, ⟨_, _, _, rfl⟩, h3⟩
  · rintro σ H1 ⟨⟨y4, y5, y6, rfl⟩, lp⟩
    have pd := lp.2
    rw [List.length_map, outB_all] at pd
    exact ⟨_, rfl, p, _, rfl, .inl ⟨SqL.of pd, fun t ht => q _ t (lp.1.trans (same_upd ht)) upd_same⟩⟩
def spReady : Sp := fun vs H Q _ => ∃ (a l s : Addr) (E : Edges) (L S : List Int), vs = [.ref a, .ref l, .ref s] ∧ Play H a l E L ∧ TupI H s S ∧
  ∀ H' p, Same H H' → LstI H' p (rdy E L S) → Q (.ref p) H'
theorem sc_ready_in : FnScope ["web", "laying", "state"] ["web", "laying", "state"] (defScope (topS 17)) := ⟨rfl, rfl, rfl, by decide +kernel, rfl, by decide +kernel, by decide +kernel⟩
theorem ok_ready_in (F : FnP K "ready_in" 17 f fd) (Cheads_in : Cal P w K mg base 1 "heads_in" ["laying"] spHeads) (Cbehind_in : Cal P w K mg base 2 "behind_in" ["web", "laying", "state"] spBehind) : FnOk P w K mg base CX0 3 f fd ["web", "laying", "state"] spReady := by
  refine F.ok sc_ready_in (fun vs H Q E h => ?_) (fun cdv A outer s H vs Q E hr h => ?_)
  · obtain ⟨a, l, s, E, L, S, rfl, _⟩ := h
    rfl
  obtain ⟨a, l, s, Ed, L, S, rfl, W, hs, q⟩ := h
  refine ⟨_, PSs.nox (pss_one (ps_ret (pe_cal Cheads_in hr (pa_cons (pe_cal Cbehind_in hr (pa_cons (pv 0) (pa_cons (pv 1) (pa_cons (pv 2) pa_nil)))) pa_nil)))), ?_⟩
  refine ⟨_, rfl, _, rfl, _, rfl, a, l, s, Ed, L, S, rfl, W, hs, fun H1 p s1 hp => ?_⟩
  refine ⟨p, _, rfl, hp, ?_, fun H2 p2 s2 hp2 => q H2 p2 (s1.trans s2) hp2⟩
  rw [beh_len]
  exact Nat.le_trans W.n6 (by decide)
end
end Ck

namespace Ck
open PySem PySem.Spec PyProof.Rows L2
def dT (S : List Int) : PyData := .tuple (S.map PyData.int)
def dP (p : List Int × Bool) : PyData := .tuple [dT p.1, .bool p.2]
def Sh (k : Nat) (d : PyData) : Prop := PyData.canLay0 d = true ∧ PyData.depth d ≤ k
theorem sh_all {k : Nat} : ∀ {ds : List PyData}, (∀ d ∈ ds, Sh k d) → PyData.canLayAll0 ds = true ∧ PyData.depthAll ds ≤ k
  | [], _ => ⟨rfl, Nat.zero_le _⟩
  | d :: ds, h => by
    obtain ⟨a1, a2⟩ := sh_all fun x hx => h x (List.mem_cons_of_mem _ hx)
    obtain ⟨b1, b2⟩ := h d List.mem_cons_self
    refine ⟨?_, ?_⟩
    · show (PyData.canLay0 d && PyData.canLayAll0 ds) = true
      rw [a1, b1]
      rfl
    · show max (PyData.depth d) (PyData.depthAll ds) ≤ k
      omega
theorem Sh.lst {k : Nat} {ds : List PyData} (h : ∀ d ∈ ds, Sh k d) : Sh (k + 1) (.list ds) := ⟨(sh_all h).1, Nat.succ_le_succ (sh_all h).2⟩
theorem Sh.tup {k : Nat} {ds : List PyData} (h : ∀ d ∈ ds, Sh k d) : Sh (k + 1) (.tuple ds) := ⟨(sh_all h).1, Nat.succ_le_succ (sh_all h).2⟩
theorem Sh.of {k : Nat} {d : PyData} (h : Sh k d) (hk : k ≤ 64 := by decide) : SeqAt.shaped d = true := Bool.and_eq_true_iff.mpr ⟨h.1, decide_eq_true (Nat.le_trans h.2 hk)⟩
theorem sh_int (i : Int) : Sh 0 (.int i) := ⟨rfl, Nat.le_refl _⟩
theorem sh_dT (S : List Int) : Sh 1 (dT S) := Sh.tup fun d hd => by
  obtain ⟨i, _, rfl⟩ := List.mem_map.mp hd
  exact sh_int i
theorem sh_ints (S : List Int) : Sh 1 (.list (S.map PyData.int)) := Sh.lst fun d hd => by
  obtain ⟨i, _, rfl⟩ := List.mem_map.mp hd
  exact sh_int i
theorem sh_dP (p : List Int × Bool) : Sh 2 (dP p) := Sh.tup fun d hd => by
  rcases List.mem_cons.mp hd with rfl | hd
  · exact sh_dT _
  · rw [List.mem_singleton.mp hd]
    exact ⟨rfl, by show (0 : Nat) ≤ 1; decide⟩
theorem sh_dTs (Ss : List (List Int)) : Sh 2 (.list (Ss.map dT)) := Sh.lst fun d hd => by
  obtain ⟨i, _, rfl⟩ := List.mem_map.mp hd
  exact sh_dT i
theorem sh_dPs (ps : List (List Int × Bool)) : Sh 3 (.list (ps.map dP)) := Sh.lst fun d hd => by
  obtain ⟨i, _, rfl⟩ := List.mem_map.mp hd
  exact sh_dP i
theorem eqv_all {α : Type} [DecidableEq α] {f : α → PyData} (hf : ∀ a b, PyData.eqv (f a) (f b) = decide (a = b)) : ∀ as bs : List α, PyData.eqvAll (as.map f) (bs.map f) = decide (as = bs)
  | [], [] => by simp [PyData.eqvAll]
  | [], b :: bs => by simp [PyData.eqvAll]
  | a :: as, [] => by simp [PyData.eqvAll]
  | a :: as, b :: bs => by
    rw [List.map_cons, List.map_cons]
    show (PyData.eqv (f a) (f b) && PyData.eqvAll (as.map f) (bs.map f)) = _
    rw [hf, eqv_all hf as bs, Bool.eq_iff_iff]
    simp
theorem eqv_int (a b : Int) : PyData.eqv (.int a) (.int b) = decide (a = b) := by
  show (a == b) = _
  rw [Bool.eq_iff_iff]
  simp
theorem eqv_ints (S T : List Int) : PyData.eqv (.list (S.map PyData.int)) (.list (T.map PyData.int)) = decide (S = T) := eqv_all eqv_int S T
theorem eqv_dT (S T : List Int) : PyData.eqv (dT S) (dT T) = decide (S = T) := eqv_all eqv_int S T
theorem eqv_dP (p q : List Int × Bool) : PyData.eqv (dP p) (dP q) = decide (p = q) := by
  show (PyData.eqv (dT p.1) (dT q.1) && ((p.2 == q.2) && true)) = _
  rw [eqv_dT, Bool.eq_iff_iff]
  obtain ⟨p1, p2⟩ := p
  obtain ⟨q1, q2⟩ := q
  simp
theorem eqv_dTs (S T : List (List Int)) : PyData.eqv (.list (S.map dT)) (.list (T.map dT)) = decide (S = T) := eqv_all eqv_dT S T
theorem any_eqv {α : Type} [DecidableEq α] {f : α → PyData} (hf : ∀ a b, PyData.eqv (f a) (f b) = decide (a = b)) (a : α) (as : List α) : ((as.map f).any fun z => PyData.eqv z (f a)) = decide (a ∈ as) := by
  rw [List.any_map, Bool.eq_iff_iff, List.any_eq_true]
  simp only [Function.comp, hf, decide_eq_true_eq]
  exact ⟨fun ⟨x, h1, h2⟩ => h2 ▸ h1, fun h => ⟨a, h, rfl⟩⟩
theorem eqv_nil (ds : List PyData) : PyData.eqv (.list ds) (.list []) = ds.isEmpty := by
  cases ds <;> rfl
section
variable {K : PySem.W.Frag} {H : Hp}
theorem dpa_ints : ∀ S : List Int, DpAll K H (S.map V.int) (S.map PyData.int)
  | [] => .nil
  | i :: S => .cons (.int i) (dpa_ints S)
theorem dp_ints {a : Addr} {S : List Int} (h : SqL K H a (S.map V.int)) : Dp K H (.ref a) (.list (S.map PyData.int)) := .lst h (dpa_ints S)
theorem dp_nil {a : Addr} (h : SqL K H a []) : Dp K H (.ref a) (.list []) := .lst h .nil
theorem dp_T {a : Addr} {S : List Int} (h : H a = some (.tup (S.map V.int))) : Dp K H (.ref a) (dT S) := .tup (SqT.of h) (dpa_ints S)
theorem dp_P {a : Addr} {p : NK} (h : NKAt H p a) : Dp K H (.ref a) (dP p) := by
  obtain ⟨s, h1, h2⟩ := h
  exact .tup (SqT.of h1) (.cons (dp_T h2) (.cons (.bl _) .nil))
theorem dpa_TL : ∀ {xs : List V} {Ss : List (List Int)}, TL H xs Ss → DpAll K H xs (Ss.map dT)
  | _, _, .nil => .nil
  | _, _, .cons ⟨a, e, h⟩ t => by
    rw [e]
    exact .cons (dp_T h) (dpa_TL t)
theorem dp_TL {a : Addr} {xs : List V} {Ss : List (List Int)} (h : SqL K H a xs) (t : TL H xs Ss) : Dp K H (.ref a) (.list (Ss.map dT)) := .lst h (dpa_TL t)
end
abbrev RowL (H : Hp) : List V → List (List Int × Bool) → Prop := Paired fun x p => ∃ a, x = V.ref a ∧ NKAt H p a
theorem RowL.keep {H H' : Hp} {xs : List V} {ps : List (List Int × Bool)} (t : RowL H xs ps) (k : ∀ b ys, H b = some (.tup ys) → H' b = some (.tup ys)) : RowL H' xs ps :=
  Paired.mapP t fun _ _ ⟨a, e, h⟩ => ⟨a, e, h.keep k⟩
theorem dpa_rows {K : PySem.W.Frag} {H : Hp} : ∀ {xs : List V} {ps : List (List Int × Bool)}, RowL H xs ps → DpAll K H xs (ps.map dP)
  | _, _, .nil => .nil
  | _, _, .cons ⟨a, e, h⟩ t => by
    rw [e]
    exact .cons (dp_P h) (dpa_rows t)
theorem dp_rows {K : PySem.W.Frag} {H : Hp} {a : Addr} {xs : List V} {ps : List (List Int × Bool)} (h : SqL K H a xs) (t : RowL H xs ps) : Dp K H (.ref a) (.list (ps.map dP)) := .lst h (dpa_rows t)
theorem units65 {k : Nat} {A : Around} (r : Room k A) : A.units + 65 < cLine := by have := r.un; omega
section
variable {P : Program} {w : World} {E : Edges} {L : List Int}
structure Memo (P : Program) (w : World) (E : Edges) (L : List Int) (H : Hp) (kn : Addr) (xs : List NEnt) : Prop where
  nd : ND P w H kn xs
  fit : ∀ e ∈ xs, Good L.length e.1.1 ∧ ∃ v, e.2.2 = .int v ∧ Fit E L e.1.1 e.1.2 v
def Mem (P : Program) (w : World) (E : Edges) (L : List Int) (H : Hp) (kn : Addr) : Prop := ∃ xs, Memo P w E L H kn xs
theorem Memo.at {H : Hp} {kn : Addr} {xs : List NEnt} (m : Memo P w E L H kn xs) : H kn = some (NDo P w kn xs) := m.nd.1
theorem Memo.len {H : Hp} {kn : Addr} {xs : List NEnt} (m : Memo P w E L H kn xs) (h6 : L.length ≤ 6) : xs.length < sizeLine := by
  have q := pairs_le h6 (l := xs.map (·.1)) m.nd.2.2.1 fun p hp => by
    obtain ⟨e, he, rfl⟩ := List.mem_map.mp hp
    exact (m.fit e he).1
  rw [List.length_map] at q
  exact small1000 (by omega)
theorem Mem.new {H : Hp} {p : Addr} : Mem P w E L (upd H p (NDo P w p [])) p := ⟨[], ND.new, fun e he => by cases he⟩
theorem ND.stay {H H' : Hp} {a : Addr} {xs : List NEnt} (h : ND P w H a xs) (s : Same H H') : ND P w H' a xs :=
  ⟨s _ _ h.1, h.2.1, h.2.2.1, fun e he => (h.2.2.2 e he).keep fun b ys q => s _ _ q⟩
theorem Memo.same {H H' : Hp} {kn : Addr} {xs : List NEnt} (m : Memo P w E L H kn xs) (s : Same H H') : Memo P w E L H' kn xs := ⟨ND.stay m.nd s, m.fit⟩
theorem Mem.same {H H' : Hp} {kn : Addr} (m : Mem P w E L H kn) (s : Same H H') : Mem P w E L H' kn := by
  obtain ⟨xs, m⟩ := m
  exact ⟨xs, m.same s⟩
theorem Memo.put {H : Hp} {kn p : Addr} {xs : List NEnt} {S : List Int} {b : Bool} {v : Int} (m : Memo P w E L H kn xs) (h6 : L.length ≤ 6) (hk : NKAt H (S, b) p) (g : Good L.length S) (f : Fit E L S b v) :
    Memo P w E L (upd H kn (NDo P w kn (nput xs (S, b) p (.int v)))) kn (nput xs (S, b) p (.int v)) := by
  refine ⟨m.nd.put hk (m.len h6), fun e he => ?_⟩
  rcases nput_mem he with q | ⟨q1, q2, _⟩
  · exact m.fit e q
  · rw [q1, q2]
    exact ⟨g, v, rfl, f⟩
theorem Mem.tups {H H' : Hp} {kn : Addr} (m : Mem P w E L H kn) (s : SameB kn H H') : ∀ b ys, H b = some (.tup ys) → H' b = some (.tup ys) := by
  obtain ⟨xs, m⟩ := m
  exact s.tup m.at fun ys z => nomatch z
end
end Ck

namespace Ck
open PySem PySem.Spec PyProof.Rows L2
theorem ne_obj {H : Hp} {a b : Addr} {o o' : HO} (h : H a = some o) (h' : H b = some o') (n : o ≠ o') : a ≠ b := fun e => by
  rw [e, h'] at h
  exact n (Option.some.inj h).symm
section
variable {P : Program} {w : World} {K : PySem.W.Frag} {mg : Str → Option Value} {base : Heap} {f : Addr} {fd : FuncData}
def spLeft (P : Program) (w : World) (m : Nat) : Sp := fun vs H Q _ => ∃ (a l s kn : Addr) (E : Edges) (L S : List Int) (b : Bool), vs = [.ref a, .ref l, .ref s, .bl b, .ref kn] ∧ Play H a l E L ∧ TupI H s S ∧ Good L.length S ∧
  L.length - S.length < m ∧ Mem P w E L H kn ∧ ∀ H' v, SameB kn H H' → Mem P w E L H' kn → Fit E L S b v → Q (.int v) H'
theorem Mem.keep {P : Program} {w : World} {E : Edges} {L : List Int} {H H' : Hp} {kn : Addr} (m : Mem P w E L H kn) (e : ∀ o, H kn = some o → H' kn = some o) (t : ∀ b ys, H b = some (.tup ys) → H' b = some (.tup ys)) : Mem P w E L H' kn := by
  obtain ⟨xs, m⟩ := m
  exact ⟨xs, ⟨e _ m.nd.1, m.nd.2.1, m.nd.2.2.1, fun x hx => (m.nd.2.2.2 x hx).keep t⟩, m.fit⟩
theorem Mem.ne {P : Program} {w : World} {E : Edges} {L : List Int} {H : Hp} {kn D : Addr} (m : Mem P w E L H kn) (h : H D = none) : D ≠ kn := by
  obtain ⟨xs, m⟩ := m
  exact (ne_of_none m.at h).symm
theorem Mem.neL {P : Program} {w : World} {E : Edges} {L : List Int} {H : Hp} {kn D : Addr} {xs : List V} (m : Mem P w E L H kn) (h : H D = some (.lst xs)) : D ≠ kn := by
  obtain ⟨ys, m⟩ := m
  exact ne_obj h m.at (fun z => nomatch z)
theorem Mem.lst {P : Program} {w : World} {E : Edges} {L : List Int} {H : Hp} {kn D : Addr} {xs : List V} {o : HO} (m : Mem P w E L H kn) (h : H D = some (.lst xs)) : Mem P w E L (upd H D o) kn := by
  have n := m.neL h
  refine m.keep (fun o q => by rw [upd_ne n.symm]; exact q) fun b ys q => ?_
  rw [upd_ne (ne_obj q h (fun z => nomatch z))]
  exact q
structure LfP (P : Program) (w : World) (E : Edges) (L S : List Int) (b : Bool) (kn D : Addr) (H1 : Hp) (i : Nat) (H : Hp) : Prop where
  same : SameB kn H1 H
  mem : Mem P w E L H kn
  out : ∃ ns : List Int, H D = some (.lst (ns.map V.int)) ∧ ns.length = i ∧ ∀ j k, j < i → (rdy E L S)[j]? = some k → ∃ v, ns[j]? = some v ∧ Fit E L (more S k) (!b) v
theorem sc_left_from : FnScope ["web", "laying", "state", "is_mine", "known", "key", "told", "k"] ["web", "laying", "state", "is_mine", "known"] (defScope (topS 21)) := ⟨rfl, rfl, rfl, by decide +kernel, rfl, by decide +kernel, by decide +kernel⟩
theorem ok_left_step (B : Blt mg) (F : FnP K "left_from" 21 f fd) (m : Nat) (Cready_in : Cal P w K mg base 3 "ready_in" ["web", "laying", "state"] spReady) (Cmore : Cal P w K mg base 1 "more" ["state", "place"] spMore)
    (Cleft_from : Cal P w K mg base (4 + m) "left_from" ["web", "laying", "state", "is_mine", "known"] (spLeft P w m)) : FnOk P w K mg base CX0 (5 + m) f fd ["web", "laying", "state", "is_mine", "known"] (spLeft P w (m + 1)) := by
  rw [show 5 + m = (4 + m) + 1 by omega]
  refine F.ok sc_left_from (fun vs H Q E h => ?_) (fun cdv A outer s H vs Q E hr h => ?_)
  · obtain ⟨a, l, s, kn, E, L, S, b, rfl, _⟩ := h
    rfl
  have hk3 : 3 ≤ 4 + m := by omega
  have hk1 : 1 ≤ 4 + m := by omega
  obtain ⟨a, l, s, kn, Ed, L, S, b, rfl, W, hs, g, lt, mem, q⟩ := h
  refine ⟨_, PSs.nox (pss_cons (ps_set (i := 5) sc_left_from.nd rfl (.inl rfl) (pe_tup (pa_cons (pv 2) (pa_cons (pv 3) pa_nil))))
    (pss_cons (ps_if (pt_cmp (pc_nnotin hr.units (pv 5) (pv 4)))
      (pss_cons (ps_setLc (i := 6) (own := [("k", 7)]) (g := gName 7) (by rfl) sc_left_from.nd rfl rfl (sw_true rfl rfl rfl (by decide +kernel)) (pi_list (pe_cal Cready_in hr (pa_cons (pv 0) (pa_cons (pv 1) (pa_cons (pv 2) pa_nil))) hk3)) (blkOk_by (own := [("k", 7)]) (N := ["web", "laying", "state", "is_mine", "known", "key", "told", "k"]) (sc := defScope (topS 21)) (by decide +kernel)) (fun _ _ _ _ _ => (pg_name (i := 7) sc_left_from.nd rfl (by first | exact .inl rfl | exact .inr rfl))) (fun _ _ _ _ _ => pts_nil) (fun _ _ _ _ _ => (pe_cal Cleft_from hr (pa_cons (pv 0) (pa_cons (pv 1) (pa_cons (pe_cal Cmore hr (pa_cons (pv 2) (pa_cons (pv 7) pa_nil)) hk1) (pa_cons (pe_not (pv 3)) (pa_cons (pv 4) pa_nil))))) (Nat.le_refl _))))
      (pss_one (ps_if (pt_cmpR (op_eqD hr.units) (pv 6) (pe_lst pa_nil) (nomark _))
        (pss_one (ps_nput hr.units (pv 4) (pv 5) (pe_op op_sub (pe_ix ix_tup (pv 0) pe_int (fun _ _ => rfl)) (pe_callB call_len_seq (by rfl) B.len boot_len (pa_cons (pv 2) pa_nil))) rfl))
        (pss_one (ps_nput hr.units (pv 4) (pv 5) (pe_ifExp (pt_val (pv 3)) (pe_callB (cr_min rfl) (by rfl) B.min boot_min (pa_cons (pv 6) pa_nil)) (pe_callB (cr_max rfl) (by rfl) B.max boot_max (pa_cons (pv 6) pa_nil))) rfl)))))
      pss_nil)
    (pss_one (ps_ret (pe_nget hr.units (pv 4) (pv 5) (fun _ _ => rfl)))))), ?_⟩
  refine ⟨_, rfl, _, rfl, small (Nat.le_of_ble_eq_true rfl), fun p hp => ?_⟩
  have s1 := same_upd (o := .tup [.ref s, .bl b]) hp
  have hnk : NKAt (upd H p (.tup [.ref s, .bl b])) (S, b) p := ⟨s, upd_same, s1 _ _ hs⟩
  obtain ⟨xs, mm⟩ := mem.same s1
  refine ⟨_, rfl, _, rfl, kn, p, (S, b), xs, rfl, rfl, mm.nd, hnk, _, rfl, ite2 (fun c => ?_) (fun c => ?_)⟩
  · have W1 := W.same s1
    have n6 := W.n6
    refine ⟨_, rfl, _, rfl, _, rfl, a, l, s, Ed, L, S, rfl, W1, s1 _ _ hs, fun H2 r s2 hr2 => ?_⟩
    have s12 := Same.trans s1 s2
    have M2 : Mem P w Ed L H2 kn := Mem.same ⟨xs, mm⟩ s2
    refine ⟨r, rfl, ⟨_, SqL.of hr2⟩, fun D hD => ?_⟩
    have hDk := M2.ne hD
    have hsk : H2 s = some (.tup (S.map V.int)) := s12 _ _ hs
    refine lc_it (walk_list (xs := (rdy Ed L S).map V.int)) (LfP P w Ed L S b kn D H2) ⟨Same.b (same_upd hD), M2.same (same_upd hD), [], upd_same, rfl, fun j k hj => absurd hj (Nat.not_lt_zero _)⟩ (fun i H3 _ p => SqL.of (p.same _ _ (M2.neL hr2) hr2)) ?_ ?_
    · rintro i x H3 H4 hi lp ⟨rfl, ex⟩
      rw [List.length_map] at hi
      rw [List.getElem?_map, List.getElem?_eq_getElem hi] at ex
      cases ex
      have ek : (rdy Ed L S)[i]? = some (rdy Ed L S)[i] := List.getElem?_eq_getElem hi
      generalize (rdy Ed L S)[i] = k at ek
      have kin := List.mem_of_getElem? ek
      have rl := rdy_le Ed L S
      have slt : S.length < L.length := rdy_lt g (fun z => by rw [z] at kin; cases kin)
      have t3 := M2.tups lp.same
      refine ⟨rfl, ?_⟩
      unfold tYes
      refine iteT ?_
      refine ⟨_, rfl, _, rfl, _, rfl, _, rfl, s, S, k, rfl, t3 _ _ hsk, by omega, fun H5 p5 s5 hp5 => ?_⟩
      have W5 := ((W.same s12).keep t3).same s5
      refine ⟨_, rfl, _, rfl, _, rfl, a, l, p5, kn, Ed, L, more S k, !b, rfl, W5, hp5, rdy_good g kin, by rw [more_len]; omega, lp.mem.same s5, fun H6 v sb m6 fv => ?_⟩
      obtain ⟨ns, h1, h2, h3⟩ := lp.out
      have h6 : H6 D = some (.lst (ns.map V.int)) := sb _ _ hDk (s5 _ _ h1)
      refine ⟨_, h6, small1000 (by rw [List.length_map, h2]; omega), ?_, m6.lst h6, ns ++ [v], ?_, by simp [h2], fun j k' hj ek' => ?_⟩
      · intro b' o hb e
        rw [upd_ne (ne_of_none e hD)]
        exact sb _ _ hb (s5 _ _ (lp.same _ _ hb e))
      · rw [upd_same, List.map_append]
        rfl
      · by_cases z : j < i
        · obtain ⟨v', e1, e2⟩ := h3 j k' z ek'
          exact ⟨v', by rw [List.getElem?_append_left (by omega)]; exact e1, e2⟩
        · have : j = i := by omega
          subst this
          rw [ek] at ek'
          cases ek'
          exact ⟨v, by rw [List.getElem?_append_right (by omega), h2]; simp, fv⟩
    · rintro H3 lp
      obtain ⟨ns, h1, h2, h3⟩ := lp.out
      rw [List.length_map] at h2 h3
      have told : Told Ed L S b ns := ⟨h2, fun i k e => h3 i k (List.getElem?_eq_some_iff.mp e).1 e⟩
      have sb3 : SameB kn H H3 := (Same.b s12).trans lp.same
      refine ⟨_, rfl, small (Nat.zero_le _), fun Z hZ => ⟨_, _, dp_ints (SqL.of (same_upd hZ _ _ h1)), dp_nil (SqL.of upd_same), (sh_ints _).of, (sh_ints []).of, _, rfl, ?_⟩⟩
      have sz := same_upd (o := .lst []) hZ
      have t3 := fun b ys (e : H2 b = some (.tup ys)) => sz _ _ (M2.tups lp.same b ys e)
      have W4 := (W.same s12).keep t3
      have hnk4 : NKAt (upd H3 Z (.lst [])) (S, b) p := (hnk.keep fun b ys e => s2 _ _ e).keep t3
      obtain ⟨ys, m4⟩ := lp.mem.same sz
      have fin : ∀ v, Fit Ed L S b v → ∀ H9, H9 = upd (upd H3 Z (.lst [])) kn (NDo P w kn (nput ys (S, b) p (.int v))) → ∃ a' p' k' xs' v', V.ref kn = .ref a' ∧ V.ref p = .ref p' ∧ ND P w H9 a' xs' ∧ NKAt H9 k' p' ∧ nget xs' k' = some v' ∧ Q v' H9 := by
        rintro v fv H9 rfl
        have m9 := m4.put n6 hnk4 g fv
        refine ⟨kn, p, (S, b), _, .int v, rfl, rfl, m9.nd, ?_, nget_put _ _ _ _, q _ v ((sb3.trans (Same.b sz)).trans sameB_upd) ⟨_, m9⟩ fv⟩
        exact hnk4.keep fun b' zs e => by
          rw [upd_ne (ne_obj e m4.at (fun z => nomatch z))]
          exact e
      rw [show ([] : List PyData) = ([] : List Int).map PyData.int from rfl, eqv_ints]
      refine ite2 (fun c2 => ?_) (fun c2 => ?_)
      · have en : ns = [] := of_decide_eq_true c2
        have er : rdy Ed L S = [] := by
          rw [en] at h2
          exact List.length_eq_zero_iff.mp h2.symm
        obtain ⟨et, ws, ha4, _, _⟩ := W4.web.ex
        refine ⟨_, rfl, a, _, 0, .int L.length, rfl, rfl, SqT.of ha4, rfl, _, rfl, s, _, rfl, .inr (SqT.of (t3 _ _ hsk)), _, _, rfl, rfl, _, rfl, _, rfl, kn, p, (S, b), ys, rfl, rfl, m4.nd, hnk4, m4.len n6, ?_⟩
        rw [List.length_map]
        exact ⟨_, rfl, _, rfl, fin _ (fit_end g er) _ rfl⟩
      · have en : ns ≠ [] := fun z => c2 (decide_eq_true z)
        have er : rdy Ed L S ≠ [] := fun z => en (by
          rw [z] at h2
          exact List.length_eq_zero_iff.mp h2)
        have nl : 0 < ns.length := List.length_pos_iff.mpr en
        have h4 : SqL K (upd H3 Z (.lst [])) D (ns.map V.int) := SqL.of (sz _ _ h1)
        cases b with
        | true =>
          refine ⟨_, rfl, _, rfl, iteT ⟨_, rfl, D, ns, rfl, h4, nl, fun m hm hle => ?_⟩⟩
          exact ⟨_, rfl, _, rfl, kn, p, (S, true), ys, rfl, rfl, m4.nd, hnk4, m4.len n6, _, rfl, _, rfl, fin _ (fit_min g er told hm hle) _ rfl⟩
        | false =>
          refine ⟨_, rfl, _, rfl, iteF ⟨_, rfl, D, ns, rfl, h4, nl, fun m hm hle => ?_⟩⟩
          exact ⟨_, rfl, _, rfl, kn, p, (S, false), ys, rfl, rfl, m4.nd, hnk4, m4.len n6, _, rfl, _, rfl, fin _ (fit_max g er told hm hle) _ rfl⟩
  · cases e : nget xs (S, b) with
    | none => rw [e] at c; exact absurd rfl c
    | some v =>
      obtain ⟨p', hp'⟩ := nget_mem e
      obtain ⟨_, v', hv, fit⟩ := mm.fit _ hp'
      cases hv
      exact ⟨_, rfl, _, rfl, kn, p, (S, b), xs, _, rfl, rfl, mm.nd, hnk, e, q _ v' (Same.b s1) ⟨xs, mm⟩ fit⟩
theorem ok_left (B : Blt mg) (F : FnP K "left_from" 21 f fd) (Cready_in : Cal P w K mg base 3 "ready_in" ["web", "laying", "state"] spReady) (Cmore : Cal P w K mg base 1 "more" ["state", "place"] spMore)
    (hm : mg "left_from" = some (.ref f)) (hk : PySem.W.keepIn K (.ref f) = true) (hb : Binds K fd ["web", "laying", "state", "is_mine", "known"] []) : ∀ m, FnOk P w K mg base CX0 (4 + m) f fd ["web", "laying", "state", "is_mine", "known"] (spLeft P w m)
  | 0 => ⟨fun vs H Q E h => by
      obtain ⟨a, l, s, kn, E, L, S, b, rfl, _⟩ := h
      rfl, fun A outer s H args us vs Q E hr he hb hv hs => by
      obtain ⟨_, _, _, _, _, _, _, _, _, _, _, _, z, _⟩ := hs
      exact absurd z (Nat.not_lt_zero _)⟩
  | m + 1 => by
    rw [show 4 + (m + 1) = 5 + m by omega]
    exact ok_left_step B F m Cready_in Cmore ⟨f, fd, ok_left B F Cready_in Cmore hm hk hb m, hm, hk, hb⟩
end
end Ck

namespace Ck
open PySem PySem.Spec PyProof.Rows L2
def key (S : List Int) : List Key := S.map Sum.inl
theorem key_inj {S T : List Int} (h : key S = key T) : S = T := by
  have q := congrArg (List.map kV) h
  unfold key at q
  rw [kV_ints, kV_ints] at q
  exact List.map_inj_right (f := V.int) (fun a b e => by cases e; rfl) |>.mp q
def tab (g : List Int → V) (ks : List (List Int)) : List (List Key × V) := ks.map fun S => (key S, g S)
theorem tab_val (g : List Int → V) (S : List Int) : ∀ ks : List (List Int), valV (tab g ks) (key S) = if S ∈ ks then some (g S) else none
  | [] => by simp [tab, valV]
  | T :: ks => by
    have ih := tab_val g S ks
    unfold tab at ih ⊢
    rw [List.map_cons]
    by_cases e : T = S
    · subst e
      rw [valV_pos (by rfl)]
      simp
    · rw [valV_neg (fun z => e (key_inj z)), ih]
      have e2 : ¬ S = T := fun z => e z.symm
      simp [e2]
theorem tab_put (g : List Int → V) {S : List Int} {ks : List (List Int)} (h : S ∉ ks) : putK (tab g ks) (key S) (g S) = tab g (ks ++ [S]) := by
  rw [putK_new _ (by rw [tab_val, if_neg h])]
  unfold tab
  rw [List.map_append]
  rfl
theorem tab_len (g : List Int → V) (ks : List (List Int)) : (tab g ks).length = ks.length := by simp [tab]
theorem tab_keys (g : List Int → V) (ks : List (List Int)) : (tab g ks).map (·.1) = ks.map (List.map Sum.inl) := by
  unfold tab
  rw [List.map_map]
  rfl
theorem key_tup {H : Hp} {s : Addr} {S : List Int} (h : TupI H s S) : H s = some (.tup ((key S).map kV)) := by
  unfold key
  rw [kV_ints]
  exact h
theorem row_len {H : Hp} {xs : List V} {ps : List (List Int × Bool)} (r : RowL H xs ps) : xs.length = ps.length := Paired.length r
theorem row_last {H : Hp} : ∀ {xs : List V} {ps : List (List Int × Bool)} {p : List Int × Bool}, RowL H xs (ps ++ [p]) → ∃ ys t, xs = ys ++ [.ref t] ∧ RowL H ys ps ∧ NKAt H p t
  | _, [], _, .cons ⟨a, e, h⟩ .nil => ⟨[], a, by rw [e]; rfl, .nil, h⟩
  | _, _ :: ps, _, .cons r tl => by
    obtain ⟨ys, t, e1, e2, e3⟩ := row_last (ps := ps) tl
    subst e1
    exact ⟨_ :: ys, t, rfl, .cons r e2, e3⟩
theorem row_app {H : Hp} : ∀ {xs ys : List V} {ps qs : List (List Int × Bool)}, RowL H xs ps → RowL H ys qs → RowL H (xs ++ ys) (ps ++ qs)
  | _, _, _, _, .nil, r => r
  | _, _, _, _, .cons a t, r => .cons a (row_app t r)
theorem lastAt {ys : List V} {x : V} : (ys ++ [x])[(ys ++ [x]).length - 1]? = some x := by simp
structure LS (H0 H : Hp) (a l mo sn ro : Addr) (E : Edges) (L : List Int) (kv1 kv2 : List (List Key × V)) (xs : List V) (ps : List (List Int × Bool)) : Prop where
  play : Play H a l E L
  h1 : H mo = some (.dT kv1)
  h2 : H sn = some (.dT kv2)
  h3 : H ro = some (.lst xs)
  row : RowL H xs ps
  ne : mo ≠ sn
  base : Same H0 H
  f1 : H0 mo = none
  f2 : H0 sn = none
  f3 : H0 ro = none
section
variable {H0 H H' : Hp} {a l mo sn ro : Addr} {E : Edges} {L : List Int} {kv1 kv2 : List (List Key × V)} {xs : List V} {ps : List (List Int × Bool)}
theorem LS.same (x : LS H0 H a l mo sn ro E L kv1 kv2 xs ps) (s : Same H H') : LS H0 H' a l mo sn ro E L kv1 kv2 xs ps :=
  ⟨x.play.same s, s _ _ x.h1, s _ _ x.h2, s _ _ x.h3, x.row.keep fun b ys q => s _ _ q, x.ne, x.base.trans s, x.f1, x.f2, x.f3⟩
theorem LS.sb {c : Addr} (x : LS H0 H a l mo sn ro E L kv1 kv2 xs ps) (s : SameB c H H') (t : ∀ b ys, H b = some (.tup ys) → H' b = some (.tup ys)) (c1 : c ≠ mo) (c2 : c ≠ sn) (c3 : c ≠ ro) (f : H0 c = none) : LS H0 H' a l mo sn ro E L kv1 kv2 xs ps :=
  ⟨x.play.keep t, s _ _ c1.symm x.h1, s _ _ c2.symm x.h2, s _ _ c3.symm x.h3, x.row.keep t, x.ne, SameB.of_new x.base f s, x.f1, x.f2, x.f3⟩
theorem upd_tups {c : Addr} {o u : HO} (h : H c = some u) (n : ∀ ys, u ≠ .tup ys) : ∀ b ys, H b = some (.tup ys) → upd H c o b = some (.tup ys) := fun b ys q => by
  rw [upd_ne (ne_obj q h (fun z => n ys z.symm))]
  exact q
theorem LS.list {xs2 : List V} {ps2 : List (List Int × Bool)} (x : LS H0 H a l mo sn ro E L kv1 kv2 xs ps) (r : RowL H xs2 ps2) : LS H0 (upd H ro (.lst xs2)) a l mo sn ro E L kv1 kv2 xs2 ps2 := by
  have t : ∀ b ys, H b = some (.tup ys) → upd H ro (.lst xs2) b = some (.tup ys) := upd_tups x.h3 fun ys z => nomatch z
  exact ⟨x.play.keep t, by rw [upd_ne (ne_obj x.h1 x.h3 (fun z => nomatch z))]; exact x.h1, by rw [upd_ne (ne_obj x.h2 x.h3 (fun z => nomatch z))]; exact x.h2, upd_same, r.keep t, x.ne, SameB.of_new x.base x.f3 sameB_upd, x.f1, x.f2, x.f3⟩
theorem LS.move {ro2 : Addr} {xs2 : List V} {ps2 : List (List Int × Bool)} (x : LS H0 H a l mo sn ro E L kv1 kv2 xs ps) (h : H ro2 = some (.lst xs2)) (r : RowL H xs2 ps2) (f : H0 ro2 = none) : LS H0 H a l mo sn ro2 E L kv1 kv2 xs2 ps2 :=
  ⟨x.play, x.h1, x.h2, h, r, x.ne, x.base, x.f1, x.f2, f⟩
theorem LS.put1 {kv : List (List Key × V)} (x : LS H0 H a l mo sn ro E L kv1 kv2 xs ps) : LS H0 (upd H mo (.dT kv)) a l mo sn ro E L kv kv2 xs ps := by
  have t : ∀ b ys, H b = some (.tup ys) → upd H mo (.dT kv) b = some (.tup ys) := upd_tups x.h1 fun ys z => nomatch z
  exact ⟨x.play.keep t, upd_same, by rw [upd_ne x.ne.symm]; exact x.h2, by rw [upd_ne (ne_obj x.h3 x.h1 (fun z => nomatch z))]; exact x.h3, x.row.keep t, x.ne, SameB.of_new x.base x.f1 sameB_upd, x.f1, x.f2, x.f3⟩
theorem LS.put2 {kv : List (List Key × V)} (x : LS H0 H a l mo sn ro E L kv1 kv2 xs ps) : LS H0 (upd H sn (.dT kv)) a l mo sn ro E L kv1 kv xs ps := by
  have t : ∀ b ys, H b = some (.tup ys) → upd H sn (.dT kv) b = some (.tup ys) := upd_tups x.h2 fun ys z => nomatch z
  exact ⟨x.play.keep t, by rw [upd_ne x.ne]; exact x.h1, upd_same, by rw [upd_ne (ne_obj x.h3 x.h2 (fun z => nomatch z))]; exact x.h3, x.row.keep t, x.ne, SameB.of_new x.base x.f2 sameB_upd, x.f1, x.f2, x.f3⟩
theorem Mem.oth {P : Program} {w : World} {kn c : Addr} {u o : HO} (m : Mem P w E L H kn) (h : H c = some u) (n1 : ∀ ys, u ≠ .tup ys) (n2 : ∀ ys, u ≠ NDo P w kn ys) : Mem P w E L (upd H c o) kn := by
  obtain ⟨xs, m'⟩ := id m
  exact m.keep (fun o q => by rw [upd_ne (fun e => by rw [← e, m'.at] at h; exact n2 _ (Option.some.inj h).symm)]; exact q) (upd_tups h n1)
end
def Fo (f : Bool) (ks : List (List Int)) (ps : List (List Int × Bool)) : Prop := f = true → (∃ r, ks = [] :: r) ∨ (ks = [] ∧ (ps = [([], true)] ∨ ps = []))
theorem more_ne (S : List Int) (k : Int) : more S k ≠ [] := fun e => by
  have := more_len S k
  rw [e] at this
  cases this
section
variable {E : Edges} {L : List Int} {f b : Bool} {ks sn : List (List Int)} {S : List Int} {r r2 : List (List Int × Bool)}
theorem rch_nil {b : Bool} {S : List Int} (h : Rch E L f S b) (e : S = []) : b = f := by
  cases h with
  | root => rfl
  | mine _ _ => exact absurd e (more_ne _ _)
  | his _ _ => exact absurd e (more_ne _ _)
theorem Fo.start : Fo f [] [([], f)] := fun e => .inr ⟨rfl, .inl (by rw [e])⟩
theorem Fo.take (h : Fo f ks (r ++ [(S, b)])) : Fo f (ks ++ [S]) r2 := fun e => by
  rcases h e with ⟨q, rfl⟩ | ⟨rfl, z | z⟩
  · exact .inl ⟨q ++ [S], rfl⟩
  · have z2 : (S, b) = ([], true) := by
      have := congrArg List.getLast? z
      simpa using this
    cases z2
    exact .inl ⟨[], rfl⟩
  · exact absurd z (by simp)
theorem Fo.skip (h : Fo f ks (r ++ [(S, b)])) : Fo f ks r := fun e => by
  rcases h e with q | ⟨rfl, z | z⟩
  · exact .inl q
  · refine .inr ⟨rfl, .inr ?_⟩
    have := congrArg List.length z
    simp at this
    exact this
  · exact absurd z (by simp)
theorem Fo.spread (h : Fo f ks (r ++ [(S, false)])) : Fo f ks r2 := fun e => by
  rcases h e with q | ⟨rfl, z | z⟩
  · exact .inl q
  · have := congrArg List.getLast? z
    simp at this
  · exact absurd z (by simp)
theorem Fo.ok {ps : List (List Int × Bool)} (h : Fo f ks ps) (kR : ∀ S ∈ ks, Rch E L f S true) : FstOk ks := by
  cases f with
  | true =>
    rcases h rfl with q | ⟨q, _⟩
    · exact .inr q
    · exact .inl fun S hS => by rw [q] at hS; cases hS
  | false => exact .inl fun S hS e => by cases rch_nil (kR S hS) e
theorem lle_nil_r {S : List Int} (h : lle S [] = true) : S = [] := by
  cases S with
  | nil => rfl
  | cons x S => simp [lle] at h
theorem fst_sorted {Ks : List (List Int)} (h : Ks.Pairwise fun a b => lle a b = true) : FstOk Ks := by
  cases Ks with
  | nil => exact .inl fun S hS => by cases hS
  | cons S Ks =>
    by_cases e : S = []
    · exact .inr ⟨Ks, by rw [e]⟩
    · refine .inl fun T hT z => ?_
      rcases List.mem_cons.mp hT with q | q
      · exact e (q ▸ z)
      · exact e (lle_nil_r (z ▸ (List.pairwise_cons.mp h).1 T q))
theorem perm_of_mem {α : Type} [DecidableEq α] {l m : List α} (hl : l.Nodup) (hm : m.Nodup) (h : ∀ x, x ∈ l ↔ x ∈ m) : l.Perm m :=
  List.perm_iff_count.mpr fun x => by rw [hl.count, hm.count]; by_cases q : x ∈ l <;> simp [q, (h x).symm]
end
section
variable {P : Program} {w : World} {K : PySem.W.Frag} {mg : Str → Option Value} {base : Heap} {f : Addr} {fd : FuncData}
abbrev CLeft (P : Program) (w : World) (K : PySem.W.Frag) (mg : Str → Option Value) (base : Heap) : Prop := Cal P w K mg base 11 "left_from" ["web", "laying", "state", "is_mine", "known"] (spLeft P w 7)
abbrev CPlay (P : Program) (w : World) (K : PySem.W.Frag) (mg : Str → Option Value) (base : Heap) : Prop := Cal P w K mg base 5 "need_play" ["web", "laying", "is_first"] spNeedPlay
theorem fit0 {E : Edges} {L S : List Int} {b : Bool} {v : Int} (h : Fit E L S b v) : decide (V.int v = .int 0) = wn E L S b := by
  rw [dec_int, Bool.eq_iff_iff, ← h.2]
  simp
def spWins : Sp := fun vs H Q _ => ∃ (a l : Addr) (E : Edges) (L : List Int) (b : Bool), vs = [.ref a, .ref l, .bl b] ∧ Play H a l E L ∧ ∀ H', Same H H' → Q (.bl (wn E L [] b)) H'
theorem sc_keeper_wins : FnScope ["web", "laying", "is_first"] ["web", "laying", "is_first"] (defScope (topS 22)) := ⟨rfl, rfl, rfl, by decide +kernel, rfl, by decide +kernel, by decide +kernel⟩
theorem ok_wins (F : FnP K "keeper_wins" 22 f fd) (Cneed_play : CPlay P w K mg base) (Cleft_from : CLeft P w K mg base) : FnOk P w K mg base CX0 12 f fd ["web", "laying", "is_first"] spWins := by
  refine F.ok sc_keeper_wins (fun vs H Q E h => ?_) (fun cdv A outer s H vs Q E hr h => ?_)
  · obtain ⟨a, l, E, L, b, rfl, _⟩ := h
    rfl
  obtain ⟨a, l, Ed, L, b, rfl, p, q⟩ := h
  refine ⟨_, PSs.nox (pss_cons (ps_expr (pe_cal Cneed_play hr (pa_cons (pv 0) (pa_cons (pv 1) (pa_cons (pv 2) pa_nil)))))
    (pss_one (ps_ret (pe_cmpR op_eq (pe_cal Cleft_from hr (pa_cons (pv 0) (pa_cons (pv 1) (pa_cons (pe_tup pa_nil) (pa_cons (pv 2) (pa_cons pe_nnew pa_nil)))))) pe_int (nomark _))))), ?_⟩
  refine ⟨_, rfl, _, rfl, _, rfl, a, l, Ed, L, b, rfl, p, fun H1 s1 => ?_⟩
  refine ⟨_, rfl, _, rfl, small (Nat.zero_le _), fun T hT => ⟨_, rfl, fun kn hkn => ?_⟩⟩
  have s3 := (s1.trans (same_upd (o := .tup []) hT)).trans (same_upd (o := NDo P w kn []) hkn)
  have n6 := p.n6
  refine ⟨a, l, T, kn, Ed, L, [], b, rfl, p.same s3, same_upd hkn _ _ upd_same, Good.nil _, by omega, Mem.new, fun H2 v sb m2 fv => ?_⟩
  refine ⟨rfl, ?_⟩
  rw [fit0 fv]
  refine q H2 (SameB.of_new (s1.trans (same_upd (o := .tup []) hT)) (none_of (s1.trans (same_upd (o := .tup []) hT)) hkn) fun b' o n h => sb b' o n ?_)
  rw [upd_ne n]
  exact h
end
end Ck

namespace Ck
open PySem PySem.Spec PyProof.Rows L2
theorem atI_zero {α : Type} {x : α} {xs : List α} : atI (x :: xs) 0 = some x := atI_nat (j := 0) rfl
theorem good_head {E : Edges} {L S : List Int} (h : (mv E L S ∈ rdy E L S ∧ wn E L (more S (mv E L S)) false = true)) : ∃ r, (rdy E L S).filter (fun k => wn E L (more S k) false) = mv E L S :: r := by
  have : mv E L S ∈ (rdy E L S).filter fun k => wn E L (more S k) false := List.mem_filter.mpr h
  unfold mv at this ⊢
  cases e : (rdy E L S).filter fun k => wn E L (more S k) false with
  | nil => rw [e] at this; cases this
  | cons x r => exact ⟨r, rfl⟩
abbrev pmv (E : Edges) (L S : List Int) : V := .int (mv E L S)
abbrev ptr (S : List Int) : V := .bl true
theorem PL.keep {H H' : Hp} {xs : List V} {es : List (List Int × V)} (t : PL H xs es) (k : ∀ b ys, H b = some (.tup ys) → H' b = some (.tup ys)) : PL H' xs es :=
  Paired.mapP t fun _ _ ⟨p, q, e, h1, h2⟩ => ⟨p, q, e, k _ _ h1, k _ _ h2⟩
structure PrP (E : Edges) (L : List Int) (Ts : List (List Int)) (D : Addr) (H1 : Hp) (i : Nat) (H : Hp) : Prop where
  same : Same H1 H
  out : ∃ zs, H D = some (.lst zs) ∧ PL H zs ((Ts.take i).map fun S => (S, pmv E L S))
structure RwP (E : Edges) (L S : List Int) (D : Addr) (H1 : Hp) (i : Nat) (H : Hp) : Prop where
  same : Same H1 H
  out : ∃ zs, H D = some (.lst zs) ∧ RowL H zs (((rdy E L S).take i).map fun k => (more S k, true))
theorem outN {H H1 : Hp} {D : Addr} {xs : List V} (s : Same H1 H) (n : H1 D = none) : Same H1 (upd H D (.lst xs)) := fun b u q => by
  rw [upd_ne (ne_of_none q n)]
  exact s b u q
theorem Srch.klen {E : Edges} {L : List Int} {f : Bool} {ks sn : List (List Int)} {rows : List (List Int × Bool)} (s : Srch E L f ks sn rows) (w : wn E L [] f = true) (h6 : L.length ≤ 6) : ks.length ≤ 64 := states_le h6 s.kN fun S hS => (s.kR S hS).1.good w
theorem Srch.slen {E : Edges} {L : List Int} {f : Bool} {ks sn : List (List Int)} {rows : List (List Int × Bool)} (s : Srch E L f ks sn rows) (w : wn E L [] f = true) (h6 : L.length ≤ 6) : sn.length ≤ 64 := states_le h6 s.sN fun S hS => (s.sR S hS).good w
section
variable {P : Program} {w : World} {K : PySem.W.Frag} {mg : Str → Option Value} {base : Heap} {f : Addr} {fd : FuncData}
def PlanW (P : Program) (w : World) (E : Edges) (L : List Int) (H0 : Hp) (a l kn mo sn : Addr) (f : Bool) (m : Nat) (σ : L2.St) (H : Hp) : Prop :=
  ∃ ro xs ps ks zs y7 y8 y9 y10, σ = [some (.ref a), some (.ref l), some (.bl f), some (.ref kn), some (.ref mo), some (.ref sn), some (.ref ro), y7, y8, y9, y10, none] ∧
    LS H0 H a l mo sn ro E L (tab (pmv E L) ks) (tab ptr zs) xs ps ∧ Mem P w E L H kn ∧ Srch E L f ks zs ps ∧ Fo f ks ps ∧ wt L.length ps ≤ 117649 ∧ m = wt L.length ps
structure GdP (P : Program) (w : World) (E : Edges) (L S : List Int) (kn D : Addr) (H1 : Hp) (i : Nat) (H : Hp) : Prop where
  same : SameB kn H1 H
  mem : Mem P w E L H kn
  out : H D = some (.lst (outF (fun k => wn E L (more S k) false) V.int (rdy E L S) i))
def PlanOut (E : Edges) (L : List Int) (b : Bool) (H : Hp) (Q : VK) : Prop := ∀ (H' : Hp) (p : Addr) (Ks : List (List Int)) (xs : List V) (o : Obj), Same H H' → H' p = some (.frz o (.tup xs)) → o.dict = none → PL H' xs (Ks.map fun S => (S, pmv E L S)) → Ks.Nodup →
  Ks.Pairwise (fun a b => lle a b = true) → (∀ T, T ∈ Ks ↔ Rch E L b T true ∧ rdy E L T ≠ []) → Q (.ref p) H'
def spPlan : Sp := fun vs H Q _ => ∃ (a l : Addr) (E : Edges) (L : List Int) (b : Bool), vs = [.ref a, .ref l, .bl b] ∧ Play H a l E L ∧
  (wn E L [] b = false → ∀ H', Same H H' → Q .non H') ∧ (wn E L [] b = true → PlanOut E L b H Q)
theorem sc_keeper_plan : FnScope ["web", "laying", "is_first", "known", "moves", "seen", "rows", "some", "state", "is_mine", "good", "k"] ["web", "laying", "is_first"] (defScope (topS 23)) := ⟨rfl, rfl, rfl, by decide +kernel, rfl, by decide +kernel, by decide +kernel⟩
theorem ok_plan (B : Blt mg) (F : FnP K "keeper_plan" 23 f fd) (Cneed_play : CPlay P w K mg base) (Cleft_from : CLeft P w K mg base) (Cready_in : Cal P w K mg base 3 "ready_in" ["web", "laying", "state"] spReady) (Cmore : Cal P w K mg base 1 "more" ["state", "place"] spMore) :
    FnOk P w K mg base CX0 12 f fd ["web", "laying", "is_first"] spPlan := by
  refine F.ok sc_keeper_plan (fun vs H Q E h => ?_) (fun cdv A outer s H vs Q E hr h => ?_)
  · obtain ⟨a, l, E, L, b, rfl, _⟩ := h
    rfl
  obtain ⟨a, l, Ed, L, fst, rfl, p, q0, q1⟩ := h
  refine ⟨_, PSs.nox (pss_cons (ps_expr (pe_cal Cneed_play hr (pa_cons (pv 0) (pa_cons (pv 1) (pa_cons (pv 2) pa_nil)))))
    (pss_cons (ps_set (i := 3) sc_keeper_plan.nd rfl (.inr rfl) pe_nnew)
    (pss_cons (ps_if (pt_cmpR op_ne (pe_cal Cleft_from hr (pa_cons (pv 0) (pa_cons (pv 1) (pa_cons (pe_tup pa_nil) (pa_cons (pv 2) (pa_cons (pv 3) pa_nil)))))) pe_int (nomark _))
      (pss_one (ps_ret pe_non))
      pss_nil)
    (pss_cons (ps_asg (pe_tup (pa_cons pe_dnewT (pa_cons pe_dnewT (pa_cons (pe_lst (pa_cons (pe_tup (pa_cons (pe_tup pa_nil) (pa_cons (pv 2) pa_nil))) pa_nil)) pa_nil)))) (pg_tup (by rfl) (pgs_cons (pg_name (i := 4) sc_keeper_plan.nd rfl (.inr rfl)) (pgs_cons (pg_name (i := 5) sc_keeper_plan.nd rfl (.inl rfl)) (pgs_cons (pg_name (i := 6) sc_keeper_plan.nd rfl (.inl rfl)) pgs_nil)))))
    (pss_cons (ps_while PassesOwn.never (pt_cmpR (op_neD hr.units) (pv 6) (pe_lst pa_nil) (nomark _))
      (pss_cons (ps_asg (pe_bm0 PySem.F.plainAttrs_list PySem.F.slot_list_pop PySem.F.type_list_pop mt_pop (pv 6)) (pg_tup (by rfl) (pgs_cons (pg_name (i := 8) sc_keeper_plan.nd rfl (.inr rfl)) (pgs_cons (pg_name (i := 9) sc_keeper_plan.nd rfl (.inl rfl)) pgs_nil))))
      (pss_cons (ps_set (i := 7) sc_keeper_plan.nd rfl (.inl rfl) (pe_cal Cready_in hr (pa_cons (pv 0) (pa_cons (pv 1) (pa_cons (pv 8) pa_nil)))))
      (pss_cons (ps_if (PW.pt (pw_and (pt_val (pv 9)) (pw_and (pt_cmpR (op_neD hr.units) (pv 7) (pe_lst pa_nil) (nomark _)) (pw_and1 (pt_cmp (pc_dnotin (hu_of hr) (pv 8) (pv 4)))))))
        (pss_cons (ps_setLc (i := 10) (own := [("k", 11)]) (g := gName 11) (by rfl) sc_keeper_plan.nd rfl rfl (sw_true rfl rfl rfl (by decide +kernel)) (pi_list (pv 7)) (blkOk_by (own := [("k", 11)]) (N := ["web", "laying", "is_first", "known", "moves", "seen", "rows", "some", "state", "is_mine", "good", "k"]) (sc := defScope (topS 23)) (by decide +kernel)) (fun _ _ _ _ _ => (pg_name (i := 11) sc_keeper_plan.nd rfl (by first | exact .inl rfl | exact .inr rfl))) (fun _ _ _ _ _ => (pts_one (pt_cmpR op_eq (pe_cal Cleft_from hr (pa_cons (pv 0) (pa_cons (pv 1) (pa_cons (pe_cal Cmore hr (pa_cons (pv 8) (pa_cons (pv 11) pa_nil))) (pa_cons pe_bl (pa_cons (pv 3) pa_nil)))))) pe_int (nomark _)))) (fun _ _ _ _ _ => (pv 11)))
        (pss_cons (ps_dput (hu_of hr) (pv 4) (pv 8) (pe_ix ix_list (pv 10) pe_int (fun _ _ => rfl)) rfl)
        (pss_one (ps_expr (pe_bm PySem.F.plainAttrs_list PySem.F.slot_list_append PySem.F.type_list_append mt_append (pv 6) (pa_cons (pe_tup (pa_cons (pe_cal Cmore hr (pa_cons (pv 8) (pa_cons (pe_ix ix_list (pv 10) pe_int (fun _ _ => rfl)) pa_nil))) (pa_cons pe_bl pa_nil))) pa_nil))))))
        pss_nil)
      (pss_one (ps_if (PW.pt (pw_and (pt_not (pt_val (pv 9))) (pw_and1 (pt_cmp (pc_dnotin (hu_of hr) (pv 8) (pv 5))))))
        (pss_cons (ps_dput (hu_of hr) (pv 5) (pv 8) pe_bl rfl)
        (pss_one (ps_set (i := 6) sc_keeper_plan.nd rfl (.inl rfl) (pe_op op_cat (pv 6) (pe_lc (own := [("k", 11)]) (g := gName 11) (by rfl) sc_keeper_plan.nd (pi_list (pv 7)) (blkOk_by (own := [("k", 11)]) (N := ["web", "laying", "is_first", "known", "moves", "seen", "rows", "some", "state", "is_mine", "good", "k"]) (sc := defScope (topS 23)) (by decide +kernel)) (fun _ _ _ _ _ => (pg_name (i := 11) sc_keeper_plan.nd rfl (by first | exact .inl rfl | exact .inr rfl))) (fun _ _ _ _ _ => pts_nil) (fun _ _ _ _ _ => (pe_tup (pa_cons (pe_cal Cmore hr (pa_cons (pv 8) (pa_cons (pv 11) pa_nil))) (pa_cons pe_bl pa_nil)))))))))
        pss_nil))))))
    (pss_one (ps_ret (pe_callTy call_tupleF (by rfl) B.tup boot_tuple (pa_cons (pe_lc (own := [("state", 8)]) (g := gName 8) (by rfl) sc_keeper_plan.nd (pi_list (pe_callB (cr_sortKT rfl hr.units) (by rfl) B.sorted boot_sorted (pa_cons (pe_bm0 PySem.F.plainAttrs_dict PySem.F.slot_dict_keys PySem.F.type_dict_keys mt_keysT (pv 4)) pa_nil))) (blkOk_by (own := [("state", 8)]) (N := ["web", "laying", "is_first", "known", "moves", "seen", "rows", "some", "state", "is_mine", "good", "k"]) (sc := defScope (topS 23)) (by decide +kernel)) (fun _ _ _ _ _ => (pg_name (i := 8) sc_keeper_plan.nd rfl (by first | exact .inl rfl | exact .inr rfl))) (fun _ _ _ _ _ => pts_nil) (fun _ _ _ _ _ => (pe_tup (pa_cons (pv 8) (pa_cons (pe_dget (hu_of hr) (pv 4) (pv 8) (fun _ _ => rfl)) pa_nil))))) pa_nil))))))))), ?_⟩
  refine ⟨_, rfl, _, rfl, _, rfl, a, l, Ed, L, fst, rfl, p, fun H1 s1 => ?_⟩
  refine fun kn hkn => ?_
  have n6 := p.n6
  refine ⟨_, rfl, _, rfl, small (Nat.zero_le _), fun T hT => ⟨_, rfl, _, rfl, ?_⟩⟩
  have s2 := s1.trans (same_upd (o := NDo P w kn []) hkn)
  have s3 := s2.trans (same_upd (o := .tup []) hT)
  refine ⟨a, l, T, kn, Ed, L, [], fst, rfl, p.same s3, upd_same, Good.nil _, by omega, Mem.new.same (same_upd hT), fun H2 v sb m2 fv => ?_⟩
  have sH2 : Same H H2 := SameB.of_new s1 (none_of s1 hkn) fun b' o n h => sb b' o n (same_upd hT _ _ (by rw [upd_ne n]; exact h))
  have hkn0 : H kn = none := none_of s1 hkn
  refine ⟨rfl, _, rfl, ?_⟩
  rw [fit0 fv]
  refine ite2 (fun c => ?_) (fun c => ?_)
  · exact q0 (by simpa using c) H2 sH2
  have wtr : wn Ed L [] fst = true := by simpa using c
  replace q1 := q1 wtr
  refine fun mo hmo sn hsn => ⟨small (Nat.zero_le _), fun T1 hT1 => ⟨_, rfl, small (Nat.le_of_ble_eq_true rfl), fun T2 hT2 => ⟨small (Nat.le_of_ble_eq_true rfl), fun ro hro => ⟨small (Nat.le_of_ble_eq_true rfl), fun T3 hT3 => ⟨T3, _, rfl, SqT.of upd_same, rfl, _, _, rfl, _, _, rfl, _, _, rfl, rfl, ?_⟩⟩⟩⟩⟩
  have e1 := same_upd (o := .dT []) hmo
  have e2 := same_upd (o := .dT []) hsn
  have e3 := same_upd (o := .tup []) hT1
  have e4 := same_upd (o := .tup [.ref T1, .bl fst]) hT2
  have e5 := same_upd (o := .lst [.ref T2]) hro
  have e6 := same_upd (o := .tup [.ref mo, .ref sn, .ref ro]) hT3
  have e56 := e5.trans e6
  have e456 := e4.trans e56
  have e36 := e3.trans e456
  have e26 := e2.trans e36
  have e16 := e1.trans e26
  refine ⟨PlanW P w Ed L H a l kn mo sn fst, ⟨_, ro, [.ref T2], [([], fst)], [], [], none, none, none, none, rfl, ?_, m2.same e16, Srch.start, Fo.start, wt_start n6 fst, rfl⟩, ?_⟩
  · exact ⟨p.same (sH2.trans e16), e26 _ _ upd_same, e36 _ _ upd_same, e6 _ _ upd_same, .cons ⟨T2, rfl, T1, e56 _ _ upd_same, e456 _ _ upd_same⟩ .nil, ne_of_none upd_same hsn, sH2.trans e16, none_of sH2 hmo, none_of (sH2.trans e1) hsn, none_of (((sH2.trans e1).trans e2).trans (e3.trans e4)) hro⟩
  rintro m σ H3 ⟨ro, xs, ps, ks, zs, y7, y8, y9, y10, rfl, ls, mem, sr, fo, wle, rfl⟩
  refine ⟨_, rfl, small (Nat.zero_le _), fun Z hZ => ⟨_, _, dp_rows (SqL.of (same_upd hZ _ _ ls.h3)) (ls.same (same_upd hZ)).row, dp_nil (SqL.of upd_same), (sh_dPs _).of, (sh_ints []).of, _, rfl, ?_⟩⟩
  rw [eqv_nil]
  replace ls := ls.same (same_upd (o := .lst []) hZ)
  replace mem := mem.same (same_upd (o := .lst []) hZ)
  generalize upd H3 Z (.lst []) = H4 at ls mem
  rcases List.eq_nil_or_concat ps with rfl | ⟨ps, ⟨S, b⟩, rfl⟩
  · refine ite2 (fun c => absurd c (by simp)) (fun _ => ?_)
    refine ⟨_, rfl, .inr (.inr (.inl ⟨rfl, .inr ⟨_, ls.h1⟩⟩)), mo, _, rfl, rfl, ls.h1, fun V hV => ?_⟩
    refine ⟨V, mo, _, ks, rfl, upd_same, same_upd hV _ _ ls.h1, tab_keys _ _, fo.ok fun S hS => (sr.kR S hS).1, fun p5 ys Ts hp5 tl pm pw => ?_⟩
    have sm := (same_upd (o := keysO V mo) hV).trans (same_upd (o := .lst ys) hp5)
    refine ⟨p5, rfl, ⟨_, SqL.of upd_same⟩, fun D hD => ?_⟩
    have h5 : upd (upd H4 V (keysO V mo)) p5 (.lst ys) p5 = some (.lst ys) := upd_same
    have tl := TL.same (same_upd (o := .lst ys) hp5) tl
    replace ls := ls.same sm
    generalize upd (upd H4 V (keysO V mo)) p5 (.lst ys) = H5 at hD h5 tl ls
    refine lc_it (walk_list (xs := ys)) (PrP Ed L Ts D H5) ⟨same_upd hD, [], upd_same, .nil⟩ (fun i H6 _ p => SqL.of (p.same _ _ h5)) ?_ ?_
    · rintro i x H6 H7 hi pp ⟨rfl, ex⟩
      obtain ⟨b, S, rfl, hS, hb⟩ := TL.get (TL.same pp.same tl) ex
      obtain ⟨qs, g1, g2⟩ := pp.out
      have l2 := ls.same pp.same
      have hSk : S ∈ ks := pm.mem_iff.mp (List.mem_of_getElem? hS)
      have dg := DGet.t l2.h1 (key_tup (S := S) hb)
      rw [tab_val, if_pos hSk] at dg
      refine ⟨rfl, ?_⟩
      unfold tYes
      refine iteT ?_
      refine ⟨_, rfl, _, rfl, _, rfl, mo, _, rfl, dg, small (Nat.le_of_ble_eq_true rfl), fun T4 hT4 => ?_⟩
      have s4 := same_upd (o := .tup [.ref b, pmv Ed L S]) hT4
      have ql : qs.length ≤ 64 := by
        rw [Paired.length g2, List.length_map, List.length_take]
        have := pm.length_eq
        have := sr.klen wtr n6
        omega
      refine ⟨qs, s4 _ _ g1, small1000 (by omega), outN (pp.same.trans s4) hD, _, upd_same, ?_⟩
      rw [take_push hS, List.map_append]
      have k4 := upd_tups (H := upd H7 T4 (.tup [.ref b, pmv Ed L S])) (o := .lst (qs ++ [.ref T4])) (s4 _ _ g1) (fun ys z => nomatch z)
      exact (PL.keep g2 fun b ys q => k4 _ _ (s4 _ _ q)).snoc ⟨T4, b, rfl, k4 _ _ upd_same, k4 _ _ (s4 _ _ hb)⟩
    · rintro H6 pp
      obtain ⟨qs, g1, g2⟩ := pp.out
      rw [TL.len tl, List.take_length] at g2
      refine ⟨D, qs, rfl, SqL.of g1, fun l5 o5 hl5 ho5 => ?_⟩
      have sl := same_upd (o := .frz o5 (.tup qs)) hl5
      refine q1 _ l5 Ts qs o5 ((ls.base.trans pp.same).trans sl) upd_same ho5 (PL.keep g2 fun b ys q => sl _ _ q) (pm.nodup_iff.mpr sr.kN) pw fun T => ?_
      rw [pm.mem_iff]
      exact sr.done T
  rw [List.concat_eq_append] at ls sr fo wle ⊢
  refine ite2 (fun _ => ?_) (fun c => absurd (by simp) c)
  refine ⟨fun σ' H' => ∃ m', m' < wt L.length (ps ++ [(S, b)]) ∧ PlanW P w Ed L H a l kn mo sn fst m' σ' H', fun σ' H' h => h, ?_⟩
  obtain ⟨ys, t, rfl, rl, s, ht0, hs0⟩ := row_last ls.row
  have rc := sr.rch (S, b) (List.mem_append_right _ List.mem_cons_self)
  have g : Good L.length S := rc.good wtr
  refine ⟨_, rfl, .inl ⟨rfl, _, SqL.of ls.h3⟩, ro, _, .ref t, rfl, rfl, ls.h3, lastAt, ?_⟩
  rw [List.dropLast_concat]
  replace mem := mem.oth (o := .lst ys) ls.h3 (fun ys z => nomatch z) (fun ys z => nomatch z)
  have ht := upd_tups (o := .lst ys) ls.h3 (fun ys z => nomatch z) _ _ ht0
  have hs : TupI (upd H4 ro (.lst ys)) s S := upd_tups (o := .lst ys) ls.h3 (fun ys z => nomatch z) _ _ hs0
  clear ht0 hs0
  replace ls := ls.list rl
  generalize upd H4 ro (.lst ys) = H5 at ls mem ht hs
  refine ⟨t, [.ref s, .bl b], rfl, SqT.of ht, rfl, _, _, rfl, _, _, rfl, rfl, ?_⟩
  refine ⟨_, rfl, _, rfl, _, rfl, a, l, s, Ed, L, S, rfl, ls.play, hs, fun H6 r s6 hr6 => ?_⟩
  replace ls := ls.same s6
  replace mem := mem.same s6
  replace hs : TupI H6 s S := s6 _ _ hs
  refine ⟨_, rfl, _, rfl, ?_⟩
  cases b with
  | true =>
    refine iteT ?_
    refine ⟨_, rfl, small (Nat.zero_le _), fun Z2 hZ2 => ⟨_, _, dp_ints (SqL.of (same_upd hZ2 _ _ hr6)), dp_nil (SqL.of upd_same), (sh_ints _).of, (sh_ints []).of, _, rfl, ?_⟩⟩
    rw [show ([] : List PyData) = ([] : List Int).map PyData.int from rfl, eqv_ints]
    have s7 := same_upd (o := .lst []) hZ2
    replace ls := ls.same s7
    replace mem := mem.same s7
    replace hs : TupI _ s S := s7 _ _ hs
    replace hr6 := s7 _ _ hr6
    generalize upd H6 Z2 (.lst []) = H7 at ls mem hs hr6
    have skip : (true = true ∧ (S ∈ ks ∨ rdy Ed L S = [])) → ∃ m', m' < wt L.length (ps ++ [(S, true)]) ∧ PlanW P w Ed L H a l kn mo sn fst m' [some (.ref a), some (.ref l), some (.bl fst), some (.ref kn), some (.ref mo), some (.ref sn), some (.ref ro), some (.ref r), some (.ref s), some (.bl true), y10, none] H7 := fun z =>
      ⟨_, wt_skip, ro, ys, ps, ks, zs, _, _, _, _, rfl, ls, mem, sr.skip (.inl z), fo.skip, Nat.le_trans (Nat.le_of_lt wt_skip) wle, rfl⟩
    refine ite2 (fun c => ?_) (fun c => ?_)
    · have nr : rdy Ed L S ≠ [] := by simpa using c
      refine ⟨_, rfl, _, rfl, mo, _, rfl, DGet.t ls.h1 (key_tup hs), _, rfl, ?_⟩
      rw [tab_val]
      by_cases hk : S ∈ ks
      · rw [if_pos hk]
        refine ite2 (fun c => absurd c (by simp)) (fun _ => ?_)
        exact ⟨_, rfl, _, rfl, iteF (iteF (skip ⟨rfl, .inl hk⟩))⟩
      · rw [if_neg hk]
        refine ite2 (fun _ => ?_) (fun c => absurd (by simp) c)
        have mvo := mv_ok g nr (rc.ok wtr).2
        refine ⟨_, rfl, r, rfl, ⟨_, SqL.of hr6⟩, fun D hD => ?_⟩
        have hDk := mem.ne hD
        refine lc_it (walk_list (xs := (rdy Ed L S).map V.int)) (GdP P w Ed L S kn D H7) ⟨Same.b (same_upd hD), mem.same (same_upd hD), by rw [outF_zero]; exact upd_same⟩ (fun i H8 _ p => SqL.of (p.same _ _ (mem.neL hr6) hr6)) ?_ ?_
        · rintro i x H8 H9 hi lp ⟨rfl, ex⟩
          rw [List.length_map] at hi
          rw [List.getElem?_map, List.getElem?_eq_getElem hi] at ex
          cases ex
          have ek : (rdy Ed L S)[i]? = some (rdy Ed L S)[i] := List.getElem?_eq_getElem hi
          generalize (rdy Ed L S)[i] = k at ek
          have kin := List.mem_of_getElem? ek
          have rl := rdy_le Ed L S
          have slt : S.length < L.length := rdy_lt g nr
          have t3 := mem.tups lp.same
          refine ⟨rfl, ?_⟩
          refine ⟨_, rfl, _, rfl, _, rfl, _, rfl, s, S, k, rfl, t3 _ _ hs, by omega, fun H9 p9 s9 hp9 => ?_⟩
          have W9 := (ls.play.keep t3).same s9
          refine ⟨_, rfl, a, l, p9, kn, Ed, L, more S k, false, rfl, W9, hp9, rdy_good g kin, by rw [more_len]; omega, lp.mem.same s9, fun H10 v sb m10 fv => ?_⟩
          refine ⟨rfl, _, rfl, ?_⟩
          rw [fit0 fv]
          have h10 : H10 D = _ := sb _ _ hDk (s9 _ _ lp.out)
          have bs : SameB kn H7 H10 := fun b' o hb e => sb _ _ hb (s9 _ _ (lp.same _ _ hb e))
          refine ite2 (fun c => ?_) (fun c => ?_)
          · refine ⟨_, rfl, _, h10, small1000 (outF_len (by omega)), ?_, m10.lst h10, by rw [upd_same, outF_yes ek c]⟩
            intro b' o hb e
            rw [upd_ne (ne_of_none e hD)]
            exact bs _ _ hb e
          · exact ⟨bs, m10, by rw [outF_no ek (Bool.eq_false_iff.mpr c)]; exact h10⟩
        · rintro H8 lp
          have h8 := lp.out
          rw [List.length_map, outF_all] at h8
          obtain ⟨rest, hd⟩ := good_head mvo
          rw [hd, List.map_cons] at h8
          have t3 := mem.tups lp.same
          have kn0 : ∀ {c o}, H7 c = some o → (∀ xs, o ≠ NDo P w kn xs) → c ≠ kn := fun {c o} e n z => by
            obtain ⟨xs, m'⟩ := mem
            rw [z, m'.at] at e
            exact n _ (Option.some.inj e).symm
          replace ls := ls.sb lp.same t3 (kn0 ls.h1 (fun xs z => nomatch z)).symm (kn0 ls.h2 (fun xs z => nomatch z)).symm (kn0 ls.h3 (fun xs z => nomatch z)).symm hkn0
          replace hs : TupI H8 s S := t3 _ _ hs
          have m8 := lp.mem
          have kl := sr.klen wtr n6
          refine ⟨_, rfl, D, _, 0, _, rfl, rfl, SqL.of h8, atI_zero, _, rfl, _, rfl, mo, _, rfl, DPut.t ls.h1 (key_tup hs) (by rw [tab_len]; exact small1000 (by omega)), ?_⟩
          rw [show V.int (mv Ed L S) = pmv Ed L S from rfl, tab_put _ hk]
          have t9 := upd_tups (o := .dT (tab (pmv Ed L) (ks ++ [S]))) ls.h1 (fun ys z => nomatch z)
          have m9 := m8.oth (o := .dT (tab (pmv Ed L) (ks ++ [S]))) ls.h1 (fun ys z => nomatch z) (fun ys z => nomatch z)
          have h9 : upd H8 mo (.dT (tab (pmv Ed L) (ks ++ [S]))) D = some (.lst (V.int (mv Ed L S) :: rest.map V.int)) := by
            rw [upd_ne (ne_obj h8 ls.h1 (fun z => nomatch z))]
            exact h8
          replace ls := ls.put1 (kv := tab (pmv Ed L) (ks ++ [S]))
          replace hs : TupI _ s S := t9 _ _ hs
          generalize upd H8 mo (.dT (tab (pmv Ed L) (ks ++ [S]))) = H9 at ls hs m9 h9
          refine ⟨_, rfl, .inl ⟨rfl, _, SqL.of ls.h3⟩, _, rfl, _, rfl, D, _, 0, _, rfl, rfl, SqL.of h9, atI_zero, s, S, mv Ed L S, rfl, hs, by have := g.len_le; omega, fun H10 p10 s10 hp10 => ?_⟩
          refine ⟨small (Nat.le_of_ble_eq_true rfl), fun T5 hT5 => ?_⟩
          have s11 := same_upd (o := .tup [.ref p10, .bl false]) hT5
          replace ls := (ls.same s10).same s11
          have m11 := (m9.same s10).same s11
          have yl : ys.length ≤ 117649 := by
            have q2 := wt_len L.length (ps ++ [(S, true)])
            rw [row_len rl]
            simp at q2
            omega
          refine ⟨ro, ys, .ref T5, rfl, rfl, ls.h3, Nat.lt_of_le_of_lt yl (by decide), ?_⟩
          have row2 : RowL (upd H10 T5 (.tup [.ref p10, .bl false])) (ys ++ [.ref T5]) (ps ++ [(more S (mv Ed L S), false)]) := ls.row.snoc ⟨T5, rfl, p10, upd_same, s11 _ _ hp10⟩
          refine ⟨_, rfl, _, rfl, iteF (iteF ⟨_, wt_take g nr _ _, ro, _, _, ks ++ [S], zs, _, _, _, _, rfl, ls.list row2, m11.oth ls.h3 (fun ys z => nomatch z) (fun ys z => nomatch z), sr.take nr hk, fo.take, ?_, rfl⟩)⟩
          exact Nat.le_trans (Nat.le_of_lt (wt_take g nr _ _)) wle
    · have nr : rdy Ed L S = [] := by simpa using c
      refine iteF ?_
      exact ⟨_, rfl, _, rfl, iteF (iteF (skip ⟨rfl, .inr nr⟩))⟩
  | false =>
    refine iteF (iteF ?_)
    refine ⟨_, rfl, _, rfl, iteT ?_⟩
    refine ⟨_, rfl, _, rfl, sn, _, rfl, DGet.t ls.h2 (key_tup hs), _, rfl, ?_⟩
    rw [tab_val]
    by_cases hk : S ∈ zs
    · rw [if_pos hk]
      refine ite2 (fun c => absurd c (by simp)) (fun _ => ?_)
      exact ⟨_, wt_skip, ro, ys, ps, ks, zs, _, _, _, _, rfl, ls, mem, sr.skip (.inr ⟨rfl, hk⟩), fo.skip, Nat.le_trans (Nat.le_of_lt wt_skip) wle, rfl⟩
    · rw [if_neg hk]
      refine ite2 (fun _ => ?_) (fun c => absurd (by simp) c)
      have zl := sr.slen wtr n6
      refine ⟨_, rfl, _, rfl, sn, _, rfl, DPut.t ls.h2 (key_tup hs) (by rw [tab_len]; exact small1000 (by omega)), ?_⟩
      rw [show V.bl true = ptr S from rfl, tab_put _ hk]
      have t9 := upd_tups (o := .dT (tab ptr (zs ++ [S]))) ls.h2 (fun ys z => nomatch z)
      replace mem := mem.oth (o := .dT (tab ptr (zs ++ [S]))) ls.h2 (fun ys z => nomatch z) (fun ys z => nomatch z)
      have h9 : upd H6 sn (.dT (tab ptr (zs ++ [S]))) r = some (.lst ((rdy Ed L S).map V.int)) := by
        rw [upd_ne (ne_obj hr6 ls.h2 (fun z => nomatch z))]
        exact hr6
      replace ls := ls.put2 (kv := tab ptr (zs ++ [S]))
      replace hs : TupI _ s S := t9 _ _ hs
      generalize upd H6 sn (.dT (tab ptr (zs ++ [S]))) = H7 at ls hs mem h9
      refine ⟨_, rfl, _, rfl, r, rfl, ⟨_, SqL.of h9⟩, fun D hD => ?_⟩
      refine lc_it (walk_list (xs := (rdy Ed L S).map V.int)) (RwP Ed L S D H7) ⟨same_upd hD, [], upd_same, .nil⟩ (fun i H8 _ p => SqL.of (p.same _ _ h9)) ?_ ?_
      · rintro i x H8 H9 hi pp ⟨rfl, ex⟩
        rw [List.length_map] at hi
        rw [List.getElem?_map, List.getElem?_eq_getElem hi] at ex
        cases ex
        have ek : (rdy Ed L S)[i]? = some (rdy Ed L S)[i] := List.getElem?_eq_getElem hi
        generalize (rdy Ed L S)[i] = k at ek
        have rl := rdy_le Ed L S
        have gl := g.len_le
        obtain ⟨qs, g1, g2⟩ := pp.out
        refine ⟨rfl, ?_⟩
        unfold tYes
        refine iteT ?_
        refine ⟨_, rfl, _, rfl, s, S, k, rfl, pp.same _ _ hs, by omega, fun H10 p10 s10 hp10 => ⟨small (Nat.le_of_ble_eq_true rfl), fun T5 hT5 => ?_⟩⟩
        have s11 := same_upd (o := .tup [.ref p10, .bl true]) hT5
        have g3 := s11 _ _ (s10 _ _ g1)
        have ql : qs.length ≤ 6 := by
          rw [Paired.length g2, List.length_map, List.length_take]
          omega
        refine ⟨qs, g3, small1000 (by omega), outN ((pp.same.trans s10).trans s11) hD, _, upd_same, ?_⟩
        rw [take_push ek, List.map_append]
        have k4 := upd_tups (H := upd H10 T5 (.tup [.ref p10, .bl true])) (o := .lst (qs ++ [.ref T5])) g3 (fun ys z => nomatch z)
        exact (RowL.keep g2 fun b ys q => k4 _ _ (s11 _ _ (s10 _ _ q))).snoc ⟨T5, rfl, p10, k4 _ _ upd_same, k4 _ _ (s11 _ _ hp10)⟩
      · rintro H8 pp
        obtain ⟨qs, g1, g2⟩ := pp.out
        rw [List.length_map, List.take_length] at g2
        replace ls := ls.same pp.same
        replace mem := mem.same pp.same
        have rl := rdy_le Ed L S
        have ql : qs.length ≤ 6 := by
          rw [Paired.length g2, List.length_map]
          omega
        have yl : ys.length ≤ 117649 := by
          have q2 := wt_len L.length (ps ++ [(S, false)])
          have q3 := row_len ls.row
          simp at q2
          omega
        refine ⟨ro, D, ys, qs, rfl, rfl, ls.h3, g1, Nat.le_trans (Nat.add_le_add yl ql) (by decide), fun p5 hp5 => ?_⟩
        have s5 := same_upd (o := .lst (ys ++ qs)) hp5
        have n5 := none_of ls.base hp5
        replace ls := ls.same s5
        have lt := wt_spread (E := Ed) (r := ps) (b := false) g n6
        refine ⟨_, lt, p5, ys ++ qs, _, ks, zs ++ [S], _, _, _, _, rfl, ls.move upd_same (row_app ls.row (RowL.keep g2 fun b ys q => s5 _ _ q)) n5, mem.same s5, sr.spread hk, fo.spread, ?_, rfl⟩
        exact Nat.le_trans (Nat.le_of_lt lt) wle
end
end Ck

namespace Ck
open PySem PySem.Spec PyProof.Rows L2
theorem PL.get {H : Hp} {g : List Int → V} : ∀ {xs : List V} {Ks : List (List Int)} {i : Nat} {x : V}, PL H xs (Ks.map fun S => (S, g S)) → xs[i]? = some x → ∃ p q S, x = .ref p ∧ Ks[i]? = some S ∧ H p = some (.tup [.ref q, g S]) ∧ H q = some (.tup (S.map V.int))
  | _, [], _, _, .nil, e => by simp at e
  | _, S :: Ks, 0, x, .cons r _, e => by
    obtain ⟨p, q, e1, h1, h2⟩ := r
    simp at e
    exact ⟨p, q, S, by rw [← e, e1], by simp, h1, h2⟩
  | _, S :: Ks, i + 1, x, .cons _ t, e => by
    obtain ⟨p, q, S', h1, h2, h3, h4⟩ := PL.get (Ks := Ks) (i := i) (x := x) t (by simpa using e)
    exact ⟨p, q, S', h1, by simpa using h2, h3, h4⟩
theorem PL.len {H : Hp} {g : List Int → V} {xs : List V} {Ks : List (List Int)} (t : PL H xs (Ks.map fun S => (S, g S))) : xs.length = Ks.length := by
  rw [Paired.length t, List.length_map]
theorem sqt_frz {K : PySem.W.Frag} {H : Hp} {a : Addr} {o : Obj} {xs : List V} (h : H a = some (.frz o (.tup xs))) : SqT K H a xs := .inl (.inr ⟨o, h⟩)
theorem lt_of_sorted {Ks : List (List Int)} (h : Ks.Pairwise fun a b => lle a b = true) (nd : Ks.Nodup) {i j : Nat} {S T : List Int} (hS : Ks[i]? = some S) (hT : Ks[j]? = some T) (hij : i < j) : lle T S = false := by
  obtain ⟨h1, e1⟩ := List.getElem?_eq_some_iff.mp hS
  obtain ⟨h2, e2⟩ := List.getElem?_eq_some_iff.mp hT
  have a1 := List.pairwise_iff_getElem.mp h i j h1 h2 hij
  have a2 := List.pairwise_iff_getElem.mp nd i j h1 h2 hij
  rw [e1, e2] at a1 a2
  cases z : lle T S with
  | false => rfl
  | true => exact absurd (lle_anti a1 z) a2
structure PlanAt (H : Hp) (v : Addr) (o : Obj) (xs : List V) (n : Nat) (Ks : List (List Int)) (m : List Int → Int) : Prop where
  obj : H v = some (.frz o (.tup xs))
  od : o.dict = none
  pl : PL H xs (Ks.map fun S => (S, V.int (m S)))
  nd : Ks.Nodup
  up : Ks.Pairwise fun a b => lle a b = true
  good : ∀ S ∈ Ks, Good n S
  rng : ∀ S ∈ Ks, 0 ≤ m S ∧ m S < n
theorem PlanAt.same {H H' : Hp} {v : Addr} {o : Obj} {xs : List V} {n : Nat} {Ks : List (List Int)} {m : List Int → Int} (p : PlanAt H v o xs n Ks m) (s : Same H H') : PlanAt H' v o xs n Ks m :=
  ⟨s _ _ p.obj, p.od, PL.keep p.pl fun b ys q => s _ _ q, p.nd, p.up, p.good, p.rng⟩
section
variable {P : Program} {w : World} {K : PySem.W.Frag} {mg : Str → Option Value} {base : Heap} {f : Addr} {fd : FuncData}
def spTab : Sp := fun vs H Q _ => ∃ (a v : Addr) (n : Nat) (E : Edges) (o : Obj) (xs : List V) (Ks : List (List Int)) (m : List Int → Int), vs = [.ref a, .ref v] ∧ WebAt H a n E ∧ n ≤ 6 ∧ PlanAt H v o xs n Ks m ∧ ∀ H', Same H H' → Q (.bl true) H'
theorem sc_is_table : FnScope ["web", "value", "last", "one", "x", "k"] ["web", "value"] (defScope (topS 24)) := ⟨rfl, rfl, rfl, by decide +kernel, rfl, by decide +kernel, by decide +kernel⟩
theorem ok_table (B : Blt mg) (F : FnP K "is_table" 24 f fd) (Cis_in : Cal P w K mg base 1 "is_in" ["value", "least", "most"] spIsIn) : FnOk P w K mg base CX0 2 f fd ["web", "value"] spTab := by
  refine F.ok sc_is_table (fun vs H Q E h => ?_) (fun cdv A outer s H vs Q E hr h => ?_)
  · obtain ⟨a, v, n, E, o, xs, Ks, m, rfl, _⟩ := h
    rfl
  obtain ⟨a, v, n, Ed, o, xs, Ks, m, rfl, W, n6, pa, q⟩ := h
  obtain ⟨et, es, ha, _, _⟩ := W.ex
  have kl : Ks.length ≤ 64 := states_le n6 pa.nd pa.good
  refine ⟨_, PSs.nox (pss_cons (ps_if (pt_not (pt_val (pe_callB call_isi (by rfl) B.isi boot_isinstance (pa_cons (pv 1) (pa_cons (pe_bltn (v := .ty "tuple") (by rfl) B.tup boot_tuple rfl) pa_nil)))))
      (pss_one (ps_ret pe_bl))
      pss_nil)
    (pss_cons (ps_set (i := 2) sc_is_table.nd rfl (.inr rfl) (pe_op op_sub (pe_ix ix_tup (pv 0) pe_int (fun _ _ => rfl)) pe_int))
    (pss_cons (ps_for PassesOwn.never rfl (pi_tup (pv 1)) (pg_name (i := 3) sc_is_table.nd rfl (.inl rfl))
      (pss_cons (ps_if (PW.pt (pw_or (pt_not (pt_val (pe_callB call_isi (by rfl) B.isi boot_isinstance (pa_cons (pv 3) (pa_cons (pe_bltn (v := .ty "tuple") (by rfl) B.tup boot_tuple rfl) pa_nil))))) (pw_or (pt_cmpR op_ne (pe_callB call_len_seq (by rfl) B.len boot_len (pa_cons (pv 3) pa_nil)) pe_int (nomark _)) (pw_or1 (pt_not (pt_val (pe_callB call_isi (by rfl) B.isi boot_isinstance (pa_cons (pe_ix ix_tup (pv 3) pe_int (fun _ _ => rfl)) (pa_cons (pe_bltn (v := .ty "tuple") (by rfl) B.tup boot_tuple rfl) pa_nil)))))))))
        (pss_one (ps_ret pe_bl))
        pss_nil)
      (pss_cons (ps_if (PW.pt (pw_or (pt_cmpR (op_neD hr.units) (pe_lc (own := [("x", 4)]) (g := gName 4) (by rfl) sc_is_table.nd (pi_tup (pe_ix ix_tup (pv 3) pe_int (fun _ _ => rfl))) (blkOk_by (own := [("x", 4)]) (N := ["web", "value", "last", "one", "x", "k"]) (sc := defScope (topS 24)) (by decide +kernel)) (fun _ _ _ _ _ => (pg_name (i := 4) sc_is_table.nd rfl (by first | exact .inl rfl | exact .inr rfl))) (fun _ _ _ _ _ => (pts_one (pt_not (pt_val (pe_cal Cis_in hr (pa_cons (pv 4) (pa_cons pe_int (pa_cons (pv 2) pa_nil)))))))) (fun _ _ _ _ _ => (pv 4))) (pe_lst pa_nil) (nomark _)) (pw_or1 (pt_cmpR (op_neD hr.units) (pe_callTy call_list_of (by rfl) B.list boot_list (pa_cons (pe_ix ix_tup (pv 3) pe_int (fun _ _ => rfl)) pa_nil)) (pe_callB (cr_sortedSet rfl) (by rfl) B.sorted boot_sorted (pa_cons (pe_callTy (call_setI rfl) (by rfl) B.set boot_set (pa_cons (pe_ix ix_tup (pv 3) pe_int (fun _ _ => rfl)) pa_nil)) pa_nil)) (nomark _)))))
        (pss_one (ps_ret pe_bl))
        pss_nil)
      (pss_one (ps_if (pt_not (pt_val (pe_cal Cis_in hr (pa_cons (pe_ix ix_tup (pv 3) pe_int (fun _ _ => rfl)) (pa_cons pe_int (pa_cons (pv 2) pa_nil))))))
        (pss_one (ps_ret pe_bl))
        pss_nil)))))
    (pss_one (ps_ret (pe_cmpR (op_eqD hr.units) (pe_lc (own := [("k", 5)]) (g := gName 5) (by rfl) sc_is_table.nd (pi_range2 (by rfl) B.range (pa_cons pe_int (pa_cons (pe_callB call_len_seq (by rfl) B.len boot_len (pa_cons (pv 1) pa_nil)) pa_nil))) (blkOk_by (own := [("k", 5)]) (N := ["web", "value", "last", "one", "x", "k"]) (sc := defScope (topS 24)) (by decide +kernel)) (fun _ _ _ _ _ => (pg_name (i := 5) sc_is_table.nd rfl (by first | exact .inl rfl | exact .inr rfl))) (fun _ _ _ _ _ => (pts_one (pt_cmpR (r := rLeT K) (op_leT hr.units0) (pe_ix (r := rIxT K) ix_tup (pe_ix (r := rIxT K) ix_tup (pv 1) (pv 5) (fun _ _ => rfl)) pe_int (fun _ _ => rfl)) (pe_ix (r := rIxT K) ix_tup (pe_ix (r := rIxT K) ix_tup (pv 1) (pe_op op_sub (pv 5) pe_int) (fun _ _ => rfl)) pe_int (fun _ _ => rfl)) (nomark _)))) (fun _ _ _ _ _ => (pv 5))) (pe_lst pa_nil) (nomark _))))))), ?_⟩
  refine ⟨_, rfl, _, _, _, _, true, rfl, .ty _, .fTuple pa.obj, kTT, _, rfl, iteF ?_⟩
  refine ⟨_, rfl, a, _, 0, .int n, rfl, rfl, SqT.of ha, rfl, _, _, rfl, rfl, ?_⟩
  refine ⟨_, rfl, v, rfl, ⟨_, sqt_frz pa.obj⟩, ?_⟩
  refine for_it (walk_tup (xs := xs)) (fun i σ H' => ∃ y3, σ = [some (.ref a), some (.ref v), some (.int ((n : Int) - 1)), y3, none, none] ∧ Same H H') ⟨none, rfl, Same.refl H⟩ (fun i σ H' _ ⟨_, _, sm⟩ => sqt_frz (sm _ _ pa.obj)) ?_ ?_
  · rintro i x σ H1 H2 hi ⟨y3, rfl, sm⟩ ⟨rfl, ex⟩
    have pa2 := pa.same sm
    obtain ⟨p, s, S, rfl, hS, hp, hs⟩ := PL.get pa2.pl ex
    have hin := List.mem_of_getElem? hS
    have g := pa.good S hin
    have rg := pa.rng S hin
    refine ⟨_, rfl, _, _, _, _, true, rfl, .ty _, .base (.tup hp), kTT, _, rfl, iteF ?_⟩
    refine ⟨_, rfl, p, _, rfl, .inr (SqT.of hp), rfl, _, rfl, iteF ?_⟩
    refine ⟨_, rfl, p, _, 0, .ref s, rfl, rfl, SqT.of hp, rfl, _, _, _, _, true, rfl, .ty _, .base (.tup hs), kTT, _, rfl, iteF ?_⟩
    refine ⟨_, rfl, p, _, 0, .ref s, rfl, rfl, SqT.of hp, rfl, s, rfl, ⟨_, SqT.of hs⟩, fun D hD => ?_⟩
    refine lc_it (walk_tup (xs := S.map V.int)) (LcP H2 D (fun _ => [])) (LcP.start hD rfl) (fun i H1 _ p => SqT.of (p.1 _ _ hs)) ?_ ?_
    · rintro j x H3 H4 hj lp ⟨rfl, ey⟩
      rw [List.getElem?_map] at ey
      cases ez : S[j]? with
      | none => rw [ez] at ey; cases ey
      | some y =>
        rw [ez] at ey
        cases ey
        have yr := g.rng y (List.mem_of_getElem? ez)
        refine ⟨rfl, _, rfl, _, rfl, y, 0, (n : Int) - 1, rfl, _, rfl, ?_⟩
        rw [decide_eq_true (show (0 : Int) ≤ y ∧ y ≤ (n : Int) - 1 by omega)]
        exact iteF (LcP.skip lp rfl)
    · rintro H3 lp
      refine ⟨small (Nat.zero_le _), fun Z hZ => ⟨_, _, dp_nil (SqL.of (same_upd hZ _ _ lp.2)), dp_nil (SqL.of upd_same), (sh_ints []).of, (sh_ints []).of, _, rfl, iteF ?_⟩⟩
      have s4 := lp.1.trans (same_upd (o := .lst []) hZ)
      have hp4 := s4 _ _ hp
      have hs4 := s4 _ _ hs
      have sm4 := sm.trans s4
      generalize upd H3 Z (.lst []) = H4 at hp4 hs4 sm4
      refine ⟨_, rfl, p, _, 0, .ref s, rfl, rfl, SqT.of hp4, rfl, s, _, rfl, .inr (SqT.of hs4), fun l1 hl1 => ?_⟩
      have s5 := same_upd (o := .lst (S.map V.int)) hl1
      have hl : upd H4 l1 (.lst (S.map V.int)) l1 = some (.lst (S.map V.int)) := upd_same
      have hp5 := s5 _ _ hp4
      have hs5 := s5 _ _ hs4
      have sm5 := sm4.trans s5
      generalize upd H4 l1 (.lst (S.map V.int)) = H5 at hl hp5 hs5 sm5
      have gl := g.len_le
      refine ⟨_, rfl, p, _, 0, .ref s, rfl, rfl, SqT.of hp5, rfl, s, S, rfl, SqT.of hs5, Nat.lt_of_le_of_lt (show S.length + 1 ≤ 7 by omega) (by decide), fun st c hst hc => ?_⟩
      refine ⟨st, _, c, rfl, upd_same, by omega, fun ns p2 up mem hl2 hp2 => ?_⟩
      have s6 := (same_upd (o := SetO w st (fun j => decide (j ∈ S)) c) hst).trans (same_upd (o := .lst (ns.map V.int)) hp2)
      refine ⟨_, _, dp_ints (SqL.of (s6 _ _ hl)), dp_ints (SqL.of upd_same), (sh_ints _).of, (sh_ints _).of, _, rfl, ?_⟩
      rw [eqv_ints, decide_eq_true (up_mem g.up up fun x => by rw [mem x, decide_eq_true_eq])]
      refine iteF ?_
      refine ⟨_, rfl, p, _, 1, _, rfl, rfl, SqT.of (s6 _ _ hp5), rfl, _, rfl, m S, 0, (n : Int) - 1, rfl, _, rfl, ?_⟩
      rw [decide_eq_true (show (0 : Int) ≤ m S ∧ m S ≤ (n : Int) - 1 by omega)]
      exact iteF ⟨_, rfl, sm5.trans s6⟩
  · rintro σ H1 ⟨y3, rfl, sm⟩
    have pa2 := pa.same sm
    have xl : xs.length = Ks.length := PL.len pa2.pl
    refine ⟨_, rfl, v, xs, rfl, .inr (sqt_frz pa2.obj), 1, xs.length, rfl, ⟨by omega, by omega, by omega, by omega⟩, fun D hD => ?_⟩
    refine lc_it (walk_range (lo := 1) (n := ((xs.length : Int) - 1).toNat)) (LcP H1 D (fun _ => [])) (LcP.start hD rfl) (fun _ _ _ _ => trivial) ?_ ?_
    · rintro i x H3 H4 hi lp ⟨rfl, rfl⟩
      have hi1 : i + 1 < xs.length := by omega
      have pa3 := pa2.same lp.1
      have x1 := List.getElem?_eq_getElem hi1
      have x0 := List.getElem?_eq_getElem (show i < xs.length by omega)
      obtain ⟨p1, q1, S1, e1, hS1, hp1, hq1⟩ := PL.get pa3.pl x1
      obtain ⟨p0, q0, S0, e0, hS0, hp0, hq0⟩ := PL.get pa3.pl x0
      rw [e1] at x1
      rw [e0] at x0
      refine ⟨rfl, _, rfl, _, rfl, v, xs, _, .ref p1, rfl, rfl, sqt_frz pa3.obj, ?_, p1, _, 0, .ref q1, rfl, rfl, SqT.of hp1, rfl, _, rfl, _, rfl, _, _, rfl, rfl, v, xs, _, .ref p0, rfl, rfl, sqt_frz pa3.obj, ?_, p0, _, 0, .ref q0, rfl, rfl, SqT.of hp0, rfl, q1, q0, S1, S0, rfl, rfl, SqT.of hq1, SqT.of hq0, ?_⟩
      · rw [show (1 : Int) + (i : Nat) = ((i + 1 : Nat) : Int) by omega]
        exact atI_nat x1
      · rw [show (1 : Int) + (i : Nat) - 1 = ((i : Nat) : Int) by omega]
        exact atI_nat x0
      · rw [lexAt_lle, lt_of_sorted pa3.up pa3.nd hS0 hS1 (Nat.lt_succ_self i)]
        exact ⟨_, rfl, iteF (LcP.skip lp rfl)⟩
    · rintro H3 lp
      exact ⟨small (Nat.zero_le _), fun Z hZ => ⟨_, _, dp_nil (SqL.of (same_upd hZ _ _ lp.2)), dp_nil (SqL.of upd_same), (sh_ints []).of, (sh_ints []).of, q _ ((sm.trans lp.1).trans (same_upd hZ))⟩⟩
end
end Ck

namespace Ck
open PySem PySem.Spec PyProof.Rows L2
theorem if_to {c A B : Prop} [Decidable c] (h : c → B → A) (n : B) : if c then A else B := by
  split
  · exact h ‹_› n
  · exact n
theorem dict_tab (E : Edges) (L : List Int) (Ks : List (List Int)) : ((Ks.map fun S => (S, pmv E L S)).map fun e : List Int × V => (e.1.map Sum.inl, e.2)) = tab (pmv E L) Ks := by
  unfold tab
  rw [List.map_map]
  rfl
section
variable {P : Program} {w : World} {K : PySem.W.Frag} {mg : Str → Option Value} {base : Heap} {f : Addr} {fd : FuncData}
def ShowW (E : Edges) (L : List Int) (H0 : Hp) (a l v md mo sn : Addr) (f : Bool) (Ks : List (List Int)) (m : Nat) (σ : L2.St) (H : Hp) : Prop :=
  ∃ ro xs ps ks zs y8 y9 y10, σ = [some (.ref a), some (.ref l), some (.bl f), some (.ref v), some (.ref md), some (.ref mo), some (.ref sn), some (.ref ro), y8, y9, y10, none] ∧
    LS H0 H a l mo sn ro E L (tab ptr ks) (tab ptr zs) xs ps ∧ H md = some (.dT (tab (pmv E L) Ks)) ∧ Srch E L f ks zs ps ∧ Fo f ks ps ∧ wt L.length ps ≤ 117649 ∧ m = wt L.length ps
def spShow : Sp := fun vs H Q _ => ∃ (a l : Addr) (E : Edges) (L : List Int) (b : Bool) (val : V), vs = [.ref a, .ref l, .bl b, val] ∧ Play H a l E L ∧
  ((val = .non ∧ ∀ H', Same H H' → Q (.bl (!wn E L [] b)) H') ∨ ∃ (v : Addr) (o : Obj) (xs : List V) (Ks : List (List Int)), val = .ref v ∧ PlanAt H v o xs L.length Ks (mv E L) ∧ wn E L [] b = true ∧ (∀ T, T ∈ Ks ↔ Rch E L b T true ∧ rdy E L T ≠ []) ∧ ∀ H', Same H H' → Q (.bl true) H')
theorem sc_shows_plan : FnScope ["web", "laying", "is_first", "value", "moves", "met", "seen", "rows", "some", "state", "is_mine", "k"] ["web", "laying", "is_first", "value"] (defScope (topS 25)) := ⟨rfl, rfl, rfl, by decide +kernel, rfl, by decide +kernel, by decide +kernel⟩
theorem ok_show (B : Blt mg) (F : FnP K "shows_plan" 25 f fd) (Cneed_play : CPlay P w K mg base) (Cleft_from : CLeft P w K mg base) (Cready_in : Cal P w K mg base 3 "ready_in" ["web", "laying", "state"] spReady) (Cmore : Cal P w K mg base 1 "more" ["state", "place"] spMore)
    (Cis_table : Cal P w K mg base 2 "is_table" ["web", "value"] spTab) : FnOk P w K mg base CX0 12 f fd ["web", "laying", "is_first", "value"] spShow := by
  refine F.ok sc_shows_plan (fun vs H Q E h => ?_) (fun cdv A outer s H vs Q E hr h => ?_)
  · obtain ⟨a, l, E, L, b, val, rfl, _⟩ := h
    rfl
  obtain ⟨a, l, Ed, L, fst, val, rfl, p, q⟩ := h
  have n6 := p.n6
  refine ⟨_, PSs.nox (pss_cons (ps_expr (pe_cal Cneed_play hr (pa_cons (pv 0) (pa_cons (pv 1) (pa_cons (pv 2) pa_nil)))))
    (pss_cons (ps_if (pt_cmpR op_isN (pv 3) pe_non (nomark _))
      (pss_one (ps_ret (pe_cmpR op_ne (pe_cal Cleft_from hr (pa_cons (pv 0) (pa_cons (pv 1) (pa_cons (pe_tup pa_nil) (pa_cons (pv 2) (pa_cons pe_nnew pa_nil)))))) pe_int (nomark _))))
      pss_nil)
    (pss_cons (ps_if (pt_not (pt_val (pe_cal Cis_table hr (pa_cons (pv 0) (pa_cons (pv 3) pa_nil)))))
      (pss_one (ps_ret pe_bl))
      pss_nil)
    (pss_cons (ps_asg (pe_tup (pa_cons (pe_callTy (call_dictF rfl hr.units) (by rfl) B.dict boot_dict (pa_cons (pv 3) pa_nil)) (pa_cons pe_dnewT (pa_cons pe_dnewT (pa_cons (pe_lst (pa_cons (pe_tup (pa_cons (pe_tup pa_nil) (pa_cons (pv 2) pa_nil))) pa_nil)) pa_nil))))) (pg_tup (by rfl) (pgs_cons (pg_name (i := 4) sc_shows_plan.nd rfl (.inl rfl)) (pgs_cons (pg_name (i := 5) sc_shows_plan.nd rfl (.inl rfl)) (pgs_cons (pg_name (i := 6) sc_shows_plan.nd rfl (.inl rfl)) (pgs_cons (pg_name (i := 7) sc_shows_plan.nd rfl (.inl rfl)) pgs_nil))))))
    (pss_cons (ps_while PassesOwn.never (pt_cmpR (op_neD hr.units) (pv 7) (pe_lst pa_nil) (nomark _))
      (pss_cons (ps_asg (pe_bm0 PySem.F.plainAttrs_list PySem.F.slot_list_pop PySem.F.type_list_pop mt_pop (pv 7)) (pg_tup (by rfl) (pgs_cons (pg_name (i := 9) sc_shows_plan.nd rfl (.inr rfl)) (pgs_cons (pg_name (i := 10) sc_shows_plan.nd rfl (.inl rfl)) pgs_nil))))
      (pss_cons (ps_set (i := 8) sc_shows_plan.nd rfl (.inl rfl) (pe_cal Cready_in hr (pa_cons (pv 0) (pa_cons (pv 1) (pa_cons (pv 9) pa_nil)))))
      (pss_cons (ps_if (PW.pt (pw_and (pt_cmpR (op_eqD hr.units) (pv 8) (pe_lst pa_nil) (nomark _)) (pw_and1 (pt_cmpR op_lt (pe_callB call_len_seq (by rfl) B.len boot_len (pa_cons (pv 9) pa_nil)) (pe_ix ix_tup (pv 0) pe_int (fun _ _ => rfl)) (nomark _)))))
        (pss_one (ps_ret pe_bl))
        pss_nil)
      (pss_cons (ps_if (PW.pt (pw_and (pt_val (pv 10)) (pw_and (pt_cmpR (op_neD hr.units) (pv 8) (pe_lst pa_nil) (nomark _)) (pw_and1 (pt_cmp (pc_dnotin (hu_of hr) (pv 9) (pv 5)))))))
        (pss_cons (ps_if (PW.pt (pw_or (pt_cmp (pc_dnotin (hu_of hr) (pv 9) (pv 4))) (pw_or1 (pt_cmpR op_notIn_seq (pe_dget (hu_of hr) (pv 4) (pv 9) (fun _ _ => rfl)) (pv 8) (by rfl)))))
          (pss_one (ps_ret pe_bl))
          pss_nil)
        (pss_cons (ps_dput (hu_of hr) (pv 5) (pv 9) pe_bl rfl)
        (pss_one (ps_expr (pe_bm PySem.F.plainAttrs_list PySem.F.slot_list_append PySem.F.type_list_append mt_append (pv 7) (pa_cons (pe_tup (pa_cons (pe_cal Cmore hr (pa_cons (pv 9) (pa_cons (pe_dget (hu_of hr) (pv 4) (pv 9) (fun _ _ => rfl)) pa_nil))) (pa_cons pe_bl pa_nil))) pa_nil))))))
        pss_nil)
      (pss_one (ps_if (PW.pt (pw_and (pt_not (pt_val (pv 10))) (pw_and1 (pt_cmp (pc_dnotin (hu_of hr) (pv 9) (pv 6))))))
        (pss_cons (ps_dput (hu_of hr) (pv 6) (pv 9) pe_bl rfl)
        (pss_one (ps_set (i := 7) sc_shows_plan.nd rfl (.inl rfl) (pe_op op_cat (pv 7) (pe_lc (own := [("k", 11)]) (g := gName 11) (by rfl) sc_shows_plan.nd (pi_list (pv 8)) (blkOk_by (own := [("k", 11)]) (N := ["web", "laying", "is_first", "value", "moves", "met", "seen", "rows", "some", "state", "is_mine", "k"]) (sc := defScope (topS 25)) (by decide +kernel)) (fun _ _ _ _ _ => (pg_name (i := 11) sc_shows_plan.nd rfl (by first | exact .inl rfl | exact .inr rfl))) (fun _ _ _ _ _ => pts_nil) (fun _ _ _ _ _ => (pe_tup (pa_cons (pe_cal Cmore hr (pa_cons (pv 9) (pa_cons (pv 11) pa_nil))) (pa_cons pe_bl pa_nil)))))))))
        pss_nil)))))))
    (pss_one (ps_ret (pe_cmpR (op_eqD hr.units) (pe_callB (cr_sortKT rfl hr.units) (by rfl) B.sorted boot_sorted (pa_cons (pe_bm0 PySem.F.plainAttrs_dict PySem.F.slot_dict_keys PySem.F.type_dict_keys mt_keysT (pv 5)) pa_nil)) (pe_callB (cr_sortKT rfl hr.units) (by rfl) B.sorted boot_sorted (pa_cons (pe_bm0 PySem.F.plainAttrs_dict PySem.F.slot_dict_keys PySem.F.type_dict_keys mt_keysT (pv 4)) pa_nil)) (nomark _))))))))), ?_⟩
  refine ⟨_, rfl, _, rfl, _, rfl, a, l, Ed, L, fst, rfl, p, fun H1 s1 => ?_⟩
  rcases q with ⟨rfl, q⟩ | ⟨v, o, vxs, Ks, rfl, pa, wtr, kmem, q⟩
  · refine ⟨_, rfl, rfl, _, rfl, iteT ?_⟩
    refine ⟨_, rfl, _, rfl, small (Nat.zero_le _), fun T hT => ⟨_, rfl, fun kn hkn => ?_⟩⟩
    have s2 := s1.trans (same_upd (o := .tup []) hT)
    have s3 := s2.trans (same_upd (o := NDo P w kn []) hkn)
    refine ⟨a, l, T, kn, Ed, L, [], fst, rfl, p.same s3, same_upd hkn _ _ upd_same, Good.nil _, by omega, Mem.new, fun H2 v sb m2 fv => ?_⟩
    refine ⟨rfl, ?_⟩
    rw [fit0 fv]
    refine q H2 (SameB.of_new s2 (none_of s2 hkn) fun b' o n h => sb b' o n ?_)
    rw [upd_ne n]
    exact h
  refine ⟨_, rfl, rfl, _, rfl, ite2 (fun c => absurd (of_decide_eq_true c) (fun z => nomatch z)) (fun _ => ?_)⟩
  refine ⟨_, rfl, _, rfl, a, v, L.length, Ed, o, vxs, Ks, mv Ed L, rfl, (p.same s1).web, n6, pa.same s1, fun H2 s2 => ?_⟩
  refine ⟨_, rfl, iteF ?_⟩
  have sH2 := s1.trans s2
  have pa2 := pa.same sH2
  have kn1 : ((Ks.map fun S => (S, pmv Ed L S)).map (·.1)).Nodup := by
    rw [List.map_map, show (Prod.fst ∘ fun S => (S, pmv Ed L S)) = id from rfl, List.map_id]
    exact pa.nd
  refine ⟨_, rfl, v, o, vxs, _, rfl, pa2.obj, pa2.od, pa2.pl, kn1, fun md hmd mo hmo sn hsn => ?_⟩
  rw [dict_tab]
  rw [dict_tab] at hmo hsn
  refine ⟨small (Nat.zero_le _), fun T1 hT1 => ⟨_, rfl, small (Nat.le_of_ble_eq_true rfl), fun T2 hT2 => ⟨small (Nat.le_of_ble_eq_true rfl), fun ro hro => ⟨small (Nat.le_of_ble_eq_true rfl), fun T3 hT3 => ⟨T3, _, rfl, SqT.of upd_same, rfl, _, _, rfl, _, _, rfl, _, _, rfl, _, _, rfl, rfl, ?_⟩⟩⟩⟩⟩
  have e0 := same_upd (o := .dT (tab (pmv Ed L) Ks)) hmd
  have e1 := same_upd (o := .dT []) hmo
  have e2 := same_upd (o := .dT []) hsn
  have e3 := same_upd (o := .tup []) hT1
  have e4 := same_upd (o := .tup [.ref T1, .bl fst]) hT2
  have e5 := same_upd (o := .lst [.ref T2]) hro
  have e6 := same_upd (o := .tup [.ref md, .ref mo, .ref sn, .ref ro]) hT3
  have e56 := e5.trans e6
  have e456 := e4.trans e56
  have e36 := e3.trans e456
  have e26 := e2.trans e36
  have e16 := e1.trans e26
  have sH := sH2.trans e0
  have dm : md ≠ mo := ne_of_none upd_same hmo
  have dn : md ≠ sn := ne_of_none (e1 _ _ upd_same) hsn
  refine ⟨ShowW Ed L H a l v md mo sn fst Ks, ⟨_, ro, [.ref T2], [([], fst)], [], [], none, none, none, rfl, ?_, e16 _ _ upd_same, Srch.start, Fo.start, wt_start n6 fst, rfl⟩, ?_⟩
  · exact ⟨p.same (sH.trans e16), e26 _ _ upd_same, e36 _ _ upd_same, e6 _ _ upd_same, .cons ⟨T2, rfl, T1, e56 _ _ upd_same, e456 _ _ upd_same⟩ .nil, ne_of_none upd_same hsn, sH.trans e16, none_of sH hmo, none_of (sH.trans e1) hsn, none_of (((sH.trans e1).trans e2).trans (e3.trans e4)) hro⟩
  rintro m σ H3 ⟨ro, xs, ps, ks, zs, y8, y9, y10, rfl, ls, hmv, sr, fo, wle, rfl⟩
  refine ⟨_, rfl, small (Nat.zero_le _), fun Z hZ => ⟨_, _, dp_rows (SqL.of (same_upd hZ _ _ ls.h3)) (ls.same (same_upd hZ)).row, dp_nil (SqL.of upd_same), (sh_dPs _).of, (sh_ints []).of, _, rfl, ?_⟩⟩
  rw [eqv_nil]
  replace ls := ls.same (same_upd (o := .lst []) hZ)
  replace hmv := same_upd (o := .lst []) hZ _ _ hmv
  generalize upd H3 Z (.lst []) = H4 at ls hmv
  rcases List.eq_nil_or_concat ps with rfl | ⟨ps, ⟨S, b⟩, rfl⟩
  · refine ite2 (fun c => absurd c (by simp)) (fun _ => ?_)
    refine ⟨_, rfl, .inr (.inr (.inl ⟨rfl, .inr ⟨_, ls.h1⟩⟩)), mo, _, rfl, rfl, ls.h1, fun V1 hV1 => ?_⟩
    refine ⟨V1, mo, _, ks, rfl, upd_same, same_upd hV1 _ _ ls.h1, tab_keys _ _, fo.ok fun S hS => (sr.kR S hS).1, fun p5 ys Ts hp5 tl pm pw => ?_⟩
    have sm := (same_upd (o := keysO V1 mo) hV1).trans (same_upd (o := .lst ys) hp5)
    have h5 : upd (upd H4 V1 (keysO V1 mo)) p5 (.lst ys) p5 = some (.lst ys) := upd_same
    have tl := TL.same (same_upd (o := .lst ys) hp5) tl
    have hm5 := sm _ _ hmv
    have b5 := ls.base.trans sm
    generalize upd (upd H4 V1 (keysO V1 mo)) p5 (.lst ys) = H5 at h5 tl hm5 b5
    refine ⟨_, rfl, .inr (.inr (.inl ⟨rfl, .inr ⟨_, hm5⟩⟩)), md, _, rfl, rfl, hm5, fun V2 hV2 => ?_⟩
    refine ⟨V2, md, _, Ks, rfl, upd_same, same_upd hV2 _ _ hm5, tab_keys _ _, fst_sorted pa.up, fun p6 zs2 Us hp6 tl2 pm2 pw2 => ?_⟩
    have sm2 := (same_upd (o := keysO V2 md) hV2).trans (same_upd (o := .lst zs2) hp6)
    refine ⟨_, _, dp_TL (SqL.of (sm2 _ _ h5)) (TL.same sm2 tl), dp_TL (SqL.of upd_same) (TL.same (same_upd (o := .lst zs2) hp6) tl2), (sh_dTs _).of, (sh_dTs _).of, ?_⟩
    have e : Ts = Us := lle_uniq (pm.trans ((perm_of_mem sr.kN pa.nd fun T => by rw [sr.done T, kmem T]).trans pm2.symm)) pw pw2
    rw [eqv_dTs, decide_eq_true e]
    exact q _ (b5.trans sm2)
  rw [List.concat_eq_append] at ls sr fo wle ⊢
  refine ite2 (fun _ => ?_) (fun c => absurd (by simp) c)
  refine ⟨fun σ' H' => ∃ m', m' < wt L.length (ps ++ [(S, b)]) ∧ ShowW Ed L H a l v md mo sn fst Ks m' σ' H', fun σ' H' h => h, ?_⟩
  obtain ⟨ys, t, rfl, rl, s, ht0, hs0⟩ := row_last ls.row
  have rc := sr.rch (S, b) (List.mem_append_right _ List.mem_cons_self)
  have g : Good L.length S := rc.good wtr
  refine ⟨_, rfl, .inl ⟨rfl, _, SqL.of ls.h3⟩, ro, _, .ref t, rfl, rfl, ls.h3, lastAt, ?_⟩
  rw [List.dropLast_concat]
  replace hmv : upd H4 ro (.lst ys) md = some (.dT (tab (pmv Ed L) Ks)) := by
    rw [upd_ne (ne_obj hmv ls.h3 (fun z => nomatch z))]
    exact hmv
  have ht := upd_tups (o := .lst ys) ls.h3 (fun ys z => nomatch z) _ _ ht0
  have hs : TupI (upd H4 ro (.lst ys)) s S := upd_tups (o := .lst ys) ls.h3 (fun ys z => nomatch z) _ _ hs0
  clear ht0 hs0
  replace ls := ls.list rl
  generalize upd H4 ro (.lst ys) = H5 at ls hmv ht hs
  refine ⟨t, [.ref s, .bl b], rfl, SqT.of ht, rfl, _, _, rfl, _, _, rfl, rfl, ?_⟩
  refine ⟨_, rfl, _, rfl, _, rfl, a, l, s, Ed, L, S, rfl, ls.play, hs, fun H6 r s6 hr6 => ?_⟩
  replace ls := ls.same s6
  replace hmv := s6 _ _ hmv
  replace hs : TupI H6 s S := s6 _ _ hs
  refine ⟨_, rfl, small (Nat.zero_le _), fun Z1 hZ1 => ⟨_, _, dp_ints (SqL.of (same_upd hZ1 _ _ hr6)), dp_nil (SqL.of upd_same), (sh_ints _).of, (sh_ints []).of, _, rfl, ?_⟩⟩
  rw [show ([] : List PyData) = ([] : List Int).map PyData.int from rfl, eqv_ints]
  have s65 := same_upd (o := .lst []) hZ1
  replace ls := ls.same s65
  replace hmv := s65 _ _ hmv
  replace hs : TupI _ s S := s65 _ _ hs
  replace hr6 := s65 _ _ hr6
  generalize upd H6 Z1 (.lst []) = H6 at ls hmv hs hr6
  obtain ⟨et, ws, ha6, _, _⟩ := ls.play.web.ex
  refine if_to (fun c n => ?_) (iteF ?_)
  · have fl := rc.full wtr (of_decide_eq_true c)
    refine ⟨_, rfl, s, _, rfl, .inr (SqT.of hs), _, rfl, a, _, 0, .int L.length, rfl, rfl, SqT.of ha6, rfl, _, _, rfl, rfl, _, rfl, ite2 (fun c2 => ?_) (fun _ => n)⟩
    have c3 := of_decide_eq_true c2
    rw [List.length_map] at c3
    exact absurd fl (by show ¬ S.length = L.length; omega)
  refine ⟨_, rfl, _, rfl, ?_⟩
  cases b with
  | true =>
    refine iteT ?_
    refine ⟨_, rfl, small (Nat.zero_le _), fun Z2 hZ2 => ⟨_, _, dp_ints (SqL.of (same_upd hZ2 _ _ hr6)), dp_nil (SqL.of upd_same), (sh_ints _).of, (sh_ints []).of, _, rfl, ?_⟩⟩
    rw [show ([] : List PyData) = ([] : List Int).map PyData.int from rfl, eqv_ints]
    have s7 := same_upd (o := .lst []) hZ2
    replace ls := ls.same s7
    replace hmv := s7 _ _ hmv
    replace hs : TupI _ s S := s7 _ _ hs
    replace hr6 := s7 _ _ hr6
    generalize upd H6 Z2 (.lst []) = H7 at ls hmv hs hr6
    have skip : (true = true ∧ (S ∈ ks ∨ rdy Ed L S = [])) → ∃ m', m' < wt L.length (ps ++ [(S, true)]) ∧ ShowW Ed L H a l v md mo sn fst Ks m' [some (.ref a), some (.ref l), some (.bl fst), some (.ref v), some (.ref md), some (.ref mo), some (.ref sn), some (.ref ro), some (.ref r), some (.ref s), some (.bl true), none] H7 := fun z =>
      ⟨_, wt_skip, ro, ys, ps, ks, zs, _, _, _, rfl, ls, hmv, sr.skip (.inl z), fo.skip, Nat.le_trans (Nat.le_of_lt wt_skip) wle, rfl⟩
    refine ite2 (fun c => ?_) (fun c => ?_)
    · have nr : rdy Ed L S ≠ [] := by simpa using c
      refine ⟨_, rfl, _, rfl, mo, _, rfl, DGet.t ls.h1 (key_tup hs), _, rfl, ?_⟩
      rw [tab_val]
      by_cases hk : S ∈ ks
      · rw [if_pos hk]
        refine ite2 (fun c => absurd c (by simp)) (fun _ => ?_)
        exact ⟨_, rfl, _, rfl, iteF (iteF (skip ⟨rfl, .inl hk⟩))⟩
      · rw [if_neg hk]
        refine ite2 (fun _ => ?_) (fun c => absurd (by simp) c)
        have mvo := mv_ok g nr (rc.ok wtr).2
        have hKs : S ∈ Ks := (kmem S).mpr ⟨rc, nr⟩
        refine ⟨_, rfl, _, rfl, md, _, rfl, DGet.t hmv (key_tup hs), _, rfl, ?_⟩
        rw [tab_val, if_pos hKs]
        refine iteF ?_
        have dg := DGet.t hmv (key_tup hs)
        rw [tab_val, if_pos hKs] at dg
        refine ⟨_, rfl, _, rfl, md, _, rfl, dg, _, rfl, r, _, rfl, .inl (SqL.of hr6), rfl, flat_ints _, _, rfl, ?_⟩
        rw [inV_int, decide_eq_true mvo.1]
        refine iteF ?_
        have kl := sr.klen wtr n6
        refine ⟨_, rfl, _, rfl, mo, _, rfl, DPut.t ls.h1 (key_tup hs) (by rw [tab_len]; exact small1000 (by omega)), ?_⟩
        rw [show V.bl true = ptr S from rfl, tab_put _ hk]
        have t9 := upd_tups (o := .dT (tab ptr (ks ++ [S]))) ls.h1 (fun ys z => nomatch z)
        have hm9 : upd H7 mo (.dT (tab ptr (ks ++ [S]))) md = some (.dT (tab (pmv Ed L) Ks)) := by
          rw [upd_ne dm]
          exact hmv
        replace ls := ls.put1 (kv := tab ptr (ks ++ [S]))
        replace hs : TupI _ s S := t9 _ _ hs
        generalize upd H7 mo (.dT (tab ptr (ks ++ [S]))) = H9 at ls hs hm9
        have dg2 := DGet.t hm9 (key_tup hs)
        rw [tab_val, if_pos hKs] at dg2
        refine ⟨_, rfl, .inl ⟨rfl, _, SqL.of ls.h3⟩, _, rfl, _, rfl, _, rfl, md, _, rfl, dg2, s, S, mv Ed L S, rfl, hs, by have := g.len_le; omega, fun H10 p10 s10 hp10 => ?_⟩
        refine ⟨small (Nat.le_of_ble_eq_true rfl), fun T5 hT5 => ?_⟩
        have s11 := same_upd (o := .tup [.ref p10, .bl false]) hT5
        replace ls := (ls.same s10).same s11
        have hm11 := s11 _ _ (s10 _ _ hm9)
        have yl : ys.length ≤ 117649 := by
          have q2 := wt_len L.length (ps ++ [(S, true)])
          rw [row_len rl]
          simp at q2
          omega
        refine ⟨ro, ys, .ref T5, rfl, rfl, ls.h3, Nat.lt_of_le_of_lt yl (by decide), ?_⟩
        have row2 : RowL (upd H10 T5 (.tup [.ref p10, .bl false])) (ys ++ [.ref T5]) (ps ++ [(more S (mv Ed L S), false)]) := ls.row.snoc ⟨T5, rfl, p10, upd_same, s11 _ _ hp10⟩
        refine ⟨_, rfl, _, rfl, iteF (iteF ⟨_, wt_take g nr _ _, ro, _, _, ks ++ [S], zs, _, _, _, rfl, ls.list row2, ?_, sr.take nr hk, fo.take, Nat.le_trans (Nat.le_of_lt (wt_take g nr _ _)) wle, rfl⟩)⟩
        rw [upd_ne (ne_obj hm11 ls.h3 (fun z => nomatch z))]
        exact hm11
    · have nr : rdy Ed L S = [] := by simpa using c
      refine iteF ?_
      exact ⟨_, rfl, _, rfl, iteF (iteF (skip ⟨rfl, .inr nr⟩))⟩
  | false =>
    refine iteF (iteF ?_)
    refine ⟨_, rfl, _, rfl, iteT ?_⟩
    refine ⟨_, rfl, _, rfl, sn, _, rfl, DGet.t ls.h2 (key_tup hs), _, rfl, ?_⟩
    rw [tab_val]
    by_cases hk : S ∈ zs
    · rw [if_pos hk]
      refine ite2 (fun c => absurd c (by simp)) (fun _ => ?_)
      exact ⟨_, wt_skip, ro, ys, ps, ks, zs, _, _, _, rfl, ls, hmv, sr.skip (.inr ⟨rfl, hk⟩), fo.skip, Nat.le_trans (Nat.le_of_lt wt_skip) wle, rfl⟩
    · rw [if_neg hk]
      refine ite2 (fun _ => ?_) (fun c => absurd (by simp) c)
      have zl := sr.slen wtr n6
      refine ⟨_, rfl, _, rfl, sn, _, rfl, DPut.t ls.h2 (key_tup hs) (by rw [tab_len]; exact small1000 (by omega)), ?_⟩
      rw [show V.bl true = ptr S from rfl, tab_put _ hk]
      have t9 := upd_tups (o := .dT (tab ptr (zs ++ [S]))) ls.h2 (fun ys z => nomatch z)
      replace hmv : upd H6 sn (.dT (tab ptr (zs ++ [S]))) md = some (.dT (tab (pmv Ed L) Ks)) := by
        rw [upd_ne dn]
        exact hmv
      have h9 : upd H6 sn (.dT (tab ptr (zs ++ [S]))) r = some (.lst ((rdy Ed L S).map V.int)) := by
        rw [upd_ne (ne_obj hr6 ls.h2 (fun z => nomatch z))]
        exact hr6
      replace ls := ls.put2 (kv := tab ptr (zs ++ [S]))
      replace hs : TupI _ s S := t9 _ _ hs
      generalize upd H6 sn (.dT (tab ptr (zs ++ [S]))) = H7 at ls hs hmv h9
      refine ⟨_, rfl, _, rfl, r, rfl, ⟨_, SqL.of h9⟩, fun D hD => ?_⟩
      refine lc_it (walk_list (xs := (rdy Ed L S).map V.int)) (RwP Ed L S D H7) ⟨same_upd hD, [], upd_same, .nil⟩ (fun i H8 _ p => SqL.of (p.same _ _ h9)) ?_ ?_
      · rintro i x H8 H9 hi pp ⟨rfl, ex⟩
        rw [List.length_map] at hi
        rw [List.getElem?_map, List.getElem?_eq_getElem hi] at ex
        cases ex
        have ek : (rdy Ed L S)[i]? = some (rdy Ed L S)[i] := List.getElem?_eq_getElem hi
        generalize (rdy Ed L S)[i] = k at ek
        have rl := rdy_le Ed L S
        have gl := g.len_le
        obtain ⟨qs, g1, g2⟩ := pp.out
        refine ⟨rfl, ?_⟩
        unfold tYes
        refine iteT ?_
        refine ⟨_, rfl, _, rfl, s, S, k, rfl, pp.same _ _ hs, by omega, fun H10 p10 s10 hp10 => ⟨small (Nat.le_of_ble_eq_true rfl), fun T5 hT5 => ?_⟩⟩
        have s11 := same_upd (o := .tup [.ref p10, .bl true]) hT5
        have g3 := s11 _ _ (s10 _ _ g1)
        have ql : qs.length ≤ 6 := by
          rw [Paired.length g2, List.length_map, List.length_take]
          omega
        refine ⟨qs, g3, small1000 (by omega), outN ((pp.same.trans s10).trans s11) hD, _, upd_same, ?_⟩
        rw [take_push ek, List.map_append]
        have k4 := upd_tups (H := upd H10 T5 (.tup [.ref p10, .bl true])) (o := .lst (qs ++ [.ref T5])) g3 (fun ys z => nomatch z)
        exact (RowL.keep g2 fun b ys q => k4 _ _ (s11 _ _ (s10 _ _ q))).snoc ⟨T5, rfl, p10, k4 _ _ upd_same, k4 _ _ (s11 _ _ hp10)⟩
      · rintro H8 pp
        obtain ⟨qs, g1, g2⟩ := pp.out
        rw [List.length_map, List.take_length] at g2
        replace ls := ls.same pp.same
        replace hmv := pp.same _ _ hmv
        have rl := rdy_le Ed L S
        have ql : qs.length ≤ 6 := by
          rw [Paired.length g2, List.length_map]
          omega
        have yl : ys.length ≤ 117649 := by
          have q2 := wt_len L.length (ps ++ [(S, false)])
          have q3 := row_len ls.row
          simp at q2
          omega
        refine ⟨ro, D, ys, qs, rfl, rfl, ls.h3, g1, Nat.le_trans (Nat.add_le_add yl ql) (by decide), fun p5 hp5 => ?_⟩
        have s5 := same_upd (o := .lst (ys ++ qs)) hp5
        have n5 := none_of ls.base hp5
        replace ls := ls.same s5
        have lt := wt_spread (E := Ed) (r := ps) (b := false) g n6
        refine ⟨_, lt, p5, ys ++ qs, _, ks, zs ++ [S], _, _, _, rfl, ls.move upd_same (row_app ls.row (RowL.keep g2 fun b ys q => s5 _ _ q)) n5, s5 _ _ hmv, sr.spread hk, fo.spread, ?_, rfl⟩
        exact Nat.le_trans (Nat.le_of_lt lt) wle
end
end Ck

namespace Ck
open PySem PySem.Spec PyProof.Rows L2
structure RowAt (K : PySem.W.Frag) (H : Hp) (ro sc : Addr) (ns : List Int) : Prop where
  ex : ∃ (i : Nat) (s c : Int), H ro = some (.lst [.ref sc, .int i, .int s, .int c])
  sq : SqL K H sc (ns.map V.int)
  ne : sc ≠ ro ∨ SqL K (fun _ => none) sc (ns.map V.int)
theorem sql_sb {K : PySem.W.Frag} {H H' : Hp} {a c : Addr} {xs : List V} (h : SqL K H a xs) (n : a ≠ c ∨ SqL K (fun _ => none) a xs) (s : SameB c H H') : SqL K H' a xs := by
  rcases n with n | n
  · rcases h with (h | ⟨o, h⟩) | h
    · exact .inl (.inl (s _ _ n h))
    · exact .inl (.inr ⟨o, s _ _ n h⟩)
    · exact .inr h
  · rcases n with (n | ⟨o, n⟩) | n
    · cases n
    · cases n
    · exact .inr n
theorem sql_same {K : PySem.W.Frag} {H H' : Hp} {a : Addr} {xs : List V} (h : SqL K H a xs) (s : Same H H') : SqL K H' a xs := by
  rcases h with (h | ⟨o, h⟩) | h
  · exact .inl (.inl (s _ _ h))
  · exact .inl (.inr ⟨o, s _ _ h⟩)
  · exact .inr h
theorem RowAt.same {K : PySem.W.Frag} {H H' : Hp} {ro sc : Addr} {ns : List Int} (r : RowAt K H ro sc ns) (s : Same H H') : RowAt K H' ro sc ns := by
  obtain ⟨i, z, c, h1⟩ := r.ex
  exact ⟨⟨i, z, c, s _ _ h1⟩, sql_same r.sq s, r.ne⟩
theorem RowAt.out {K : PySem.W.Frag} {H0 H : Hp} {ro sc p : Addr} {ns : List Int} {o : HO} (r : RowAt K H ro sc ns) (r0 : RowAt K H0 ro sc ns) (s : SameB ro H0 H) (f : H0 p = none) : RowAt K (upd H p o) ro sc ns := by
  obtain ⟨i, z, c, h1⟩ := r.ex
  obtain ⟨_, _, _, h0⟩ := r0.ex
  refine ⟨⟨i, z, c, by rw [upd_ne (ne_of_none h0 f)]; exact h1⟩, sql_sb r0.sq r.ne fun b u nb q => ?_, r.ne⟩
  rw [upd_ne (ne_of_none q f)]
  exact s b u nb q
section
variable {P : Program} {w : World} {K : PySem.W.Frag} {mg : Str → Option Value} {base : Heap} {f : Addr} {fd : FuncData}
def spTaken (K : PySem.W.Frag) : Sp := fun vs H Q _ => ∃ (ro sc : Addr) (ns : List Int) (m : Int), vs = [.ref ro, .int m] ∧ 0 < m ∧ m ≤ 1000 ∧ RowAt K H ro sc ns ∧ ∀ H' v, SameB ro H H' → RowAt K H' ro sc ns → 0 ≤ v → v < m → Q (.int v) H'
theorem sc__law_taken : FnScope ["_law_row", "_law_many", "_law_found", "_law_cell"] ["_law_row", "_law_many"] (defScope (topS 27)) := ⟨rfl, rfl, rfl, by decide +kernel, rfl, by decide +kernel, by decide +kernel⟩
theorem ok_taken (B : Blt mg) (F : FnP K "_law_taken" 27 f fd) : FnOk P w K mg base CX0 1 f fd ["_law_row", "_law_many"] (spTaken K) := by
  refine F.ok sc__law_taken (fun vs H Q E h => ?_) (fun cdv A outer s H vs Q E hr h => ?_)
  · obtain ⟨ro, sc, ns, m, rfl, _⟩ := h
    rfl
  obtain ⟨ro, sc, ns, m, rfl, m0, m1, R, q⟩ := h
  obtain ⟨i, z, c, h1⟩ := R.ex
  have h2 := R.sq
  have h3 := R.ne
  refine ⟨_, PSs.nox (pss_cons (ps_if (pt_cmpR op_gt (pe_ix ix_list (pv 0) pe_int (fun _ _ => rfl)) pe_int (nomark _))
      (pss_cons (ps_set (i := 2) sc__law_taken.nd rfl (.inl rfl) (pe_op op_mod (pe_callTy call_int1 (by rfl) B.int boot_int (pa_cons (pe_ix ix_list (pv 0) pe_int (fun _ _ => rfl)) pa_nil)) (pv 1)))
      (pss_cons (ps_asg (pe_op op_fdivN (pe_ix ix_list (pv 0) pe_int (fun _ _ => rfl)) (pv 1)) (pg_sub (pv 0) pe_int set_list))
      (pss_one (ps_ret (pv 2)))))
      pss_nil)
    (pss_cons (ps_asg (pe_op op_add (pe_ix ix_list (pv 0) pe_int (fun _ _ => rfl)) pe_int) (pg_sub (pv 0) pe_int set_list))
    (pss_cons (ps_if (pt_cmpR op_gt (pe_ix ix_list (pv 0) pe_int (fun _ _ => rfl)) (pe_callB call_len_seq (by rfl) B.len boot_len (pa_cons (pe_ix ix_list (pv 0) pe_int (fun _ _ => rfl)) pa_nil)) (nomark _))
      (pss_cons (ps_asg (pe_op op_mod (pe_callTy call_int1 (by rfl) B.int boot_int (pa_cons (pe_op op_add (pe_op op_mul (pe_ix ix_list (pv 0) pe_int (fun _ _ => rfl)) pe_int) pe_int) pa_nil)) pe_int) (pg_sub (pv 0) pe_int set_list))
      (pss_one (ps_ret (pe_op op_mod (pe_callTy call_int1 (by rfl) B.int boot_int (pa_cons (pe_op op_fdivN (pe_ix ix_list (pv 0) pe_int (fun _ _ => rfl)) pe_int) pa_nil)) (pv 1)))))
      pss_nil)
    (pss_cons (ps_set (i := 3) sc__law_taken.nd rfl (.inl rfl) (pe_ix ix_list (pe_ix ix_list (pv 0) pe_int (fun _ _ => rfl)) (pe_op op_sub (pe_ix ix_list (pv 0) pe_int (fun _ _ => rfl)) pe_int) (fun _ _ => rfl)))
    (pss_cons (ps_asg (pe_op op_mod (pe_callTy call_int1 (by rfl) B.int boot_int (pa_cons (pe_op op_add (pe_op op_add (pe_op op_mul (pe_ix ix_list (pv 0) pe_int (fun _ _ => rfl)) pe_int) (pv 3)) pe_int) pa_nil)) pe_int) (pg_sub (pv 0) pe_int set_list))
    (pss_cons (ps_if (pt_cmpR op_ge (pv 3) (pe_op op_pow pe_int pe_int) (nomark _))
      (pss_one (ps_asg (pe_op op_fdivN (pv 3) (pv 1)) (pg_sub (pv 0) pe_int set_list)))
      pss_nil)
    (pss_one (ps_ret (pe_op op_mod (pe_callTy call_int1 (by rfl) B.int boot_int (pa_cons (pv 3) pa_nil)) (pv 1)))))))))), ?_⟩
  have dv : CDivN c m := ⟨by omega, by omega⟩
  have fin : ∀ {H' : Hp} {i' : Nat} {z' c' v : Int}, SameB ro H H' → H' ro = some (.lst [.ref sc, .int i', .int z', .int c']) → Q (.int (v % m)) H' := fun {H' i' z' c' v} sb e =>
    q H' _ sb ⟨⟨i', z', c', e⟩, sql_sb h2 h3 sb, h3⟩ (Int.emod_nonneg _ (by omega)) (Int.emod_lt_of_pos _ m0)
  refine ⟨_, rfl, ro, _, 3, .int c, rfl, rfl, SqL.of h1, rfl, _, _, rfl, rfl, _, rfl, ite2 (fun _ => ?_) (fun _ => ?_)⟩
  · refine ⟨_, rfl, ro, _, 3, .int c, rfl, rfl, SqL.of h1, rfl, .inl ⟨c, rfl, _, rfl, _, _, rfl, rfl, m0, ?_⟩⟩
    refine ⟨_, rfl, ro, _, 3, .int c, rfl, rfl, SqL.of h1, rfl, _, rfl, _, _, rfl, rfl, dv, _, rfl, ro, _, 3, 3, rfl, rfl, h1, rfl, ?_⟩
    exact ⟨_, rfl, fin sameB_upd upd_same⟩
  · refine ⟨_, rfl, ro, _, 1, .int i, rfl, rfl, SqL.of h1, rfl, _, _, rfl, rfl, _, rfl, ro, _, 1, 1, rfl, rfl, h1, rfl, ?_⟩
    have s1 : SameB ro H (upd H ro (.lst ([V.ref sc, .int i, .int z, .int c].set 1 (.int (i + 1))))) := sameB_upd
    have g1 : upd H ro (.lst ([V.ref sc, .int i, .int z, .int c].set 1 (.int (i + 1)))) ro = some (.lst [.ref sc, .int ((i + 1 : Nat) : Int), .int z, .int c]) := upd_same
    generalize upd H ro (.lst ([V.ref sc, .int i, .int z, .int c].set 1 (.int (i + 1)))) = H1 at s1 g1
    have k1 := sql_sb h2 h3 s1
    refine ⟨_, rfl, ro, _, 1, .int ((i + 1 : Nat) : Int), rfl, rfl, SqL.of g1, rfl, _, rfl, ro, _, 0, .ref sc, rfl, rfl, SqL.of g1, rfl, sc, _, rfl, .inl k1, _, _, rfl, rfl, _, rfl, ite2 (fun _ => ?_) (fun c1 => ?_)⟩
    · refine ⟨_, rfl, ro, _, 2, .int z, rfl, rfl, SqL.of g1, rfl, _, _, rfl, rfl, .inr ⟨by decide, by decide⟩, _, _, rfl, rfl, .inl ⟨_, rfl, _, _, rfl, rfl, (show (0 : Int) < 2147483647 by decide), _, rfl, ro, _, 2, 2, rfl, rfl, g1, rfl, ?_⟩⟩
      refine ⟨_, rfl, ro, _, 2, _, rfl, rfl, SqL.of upd_same, rfl, _, _, rfl, rfl, ⟨by decide, by decide⟩, .inl ⟨_, rfl, _, rfl, _, _, rfl, rfl, m0, ?_⟩⟩
      exact fin (s1.trans sameB_upd) upd_same
    · have il : i < ns.length := by
        rw [decide_eq_true_eq, List.length_map] at c1
        omega
      refine ⟨_, rfl, ro, _, 0, .ref sc, rfl, rfl, SqL.of g1, rfl, _, rfl, ro, _, 1, .int ((i + 1 : Nat) : Int), rfl, rfl, SqL.of g1, rfl, _, _, rfl, rfl, sc, _, _, .int ns[i], rfl, rfl, k1, ?_, ?_⟩
      · rw [show ((i + 1 : Nat) : Int) - 1 = (i : Int) by omega]
        exact atI_nat (by rw [List.getElem?_map, List.getElem?_eq_getElem il]; rfl)
      generalize ns[i] = y
      refine ⟨_, rfl, ro, _, 2, .int z, rfl, rfl, SqL.of g1, rfl, _, _, rfl, rfl, .inr ⟨by decide, by decide⟩, _, rfl, _, _, rfl, rfl, _, _, rfl, rfl, .inl ⟨_, rfl, _, _, rfl, rfl, (show (0 : Int) < 2147483647 by decide), _, rfl, ro, _, 2, 2, rfl, rfl, g1, rfl, ?_⟩⟩
      refine ⟨_, rfl, _, _, rfl, rfl, ⟨by decide, by decide, by decide⟩, _, _, rfl, rfl, _, rfl, ite2 (fun _ => ?_) (fun _ => ?_)⟩
      · refine ⟨_, rfl, _, rfl, _, _, rfl, rfl, ⟨by omega, by omega⟩, _, rfl, ro, _, 3, 3, rfl, rfl, upd_same, rfl, ?_⟩
        exact ⟨_, rfl, .inl ⟨_, rfl, _, rfl, _, _, rfl, rfl, m0, fin ((s1.trans sameB_upd).trans sameB_upd) upd_same⟩⟩
      · exact ⟨_, rfl, .inl ⟨_, rfl, _, rfl, _, _, rfl, rfl, m0, fin (s1.trans sameB_upd) upd_same⟩⟩
end
end Ck

namespace Ck
open PySem PySem.Spec PyProof.Rows L2
theorem SameB.out {c p : Addr} {H H' : Hp} {o : HO} (s : SameB c H H') (n : H p = none) : SameB c H (upd H' p o) := fun b u nb q => by
  rw [upd_ne (ne_of_none q n)]
  exact s b u nb q
theorem noneB {c p : Addr} {H H' : Hp} (s : SameB c H H') (n : p ≠ c) (h : H' p = none) : H p = none := by
  cases e : H p with
  | none => rfl
  | some o => rw [s _ _ n e] at h; cases h
section
variable {K : PySem.W.Frag} {H : Hp} {ro sc p : Addr} {ns : List Int}
theorem RowAt.nw (r : RowAt K H ro sc ns) (h : H p = none) : p ≠ ro := by
  obtain ⟨i, z, c, h1⟩ := r.ex
  exact (ne_of_none h1 h).symm
theorem RowAt.neL {S : List Int} (r : RowAt K H ro sc ns) (h : H p = some (.lst (S.map V.int))) : p ≠ ro := by
  obtain ⟨i, z, c, h1⟩ := r.ex
  refine ne_obj h h1 fun e => ?_
  cases S with
  | nil => cases e
  | cons x S => cases e
theorem RowAt.neO {o : HO} (r : RowAt K H ro sc ns) (h : H p = some o) (n : ∀ xs, o ≠ .lst xs) : p ≠ ro := by
  obtain ⟨i, z, c, h1⟩ := r.ex
  exact ne_obj h h1 (n _)
theorem RowAt.tups {H' : Hp} (r : RowAt K H ro sc ns) (s : SameB ro H H') : ∀ b ys, H b = some (.tup ys) → H' b = some (.tup ys) := by
  obtain ⟨i, z, c, h1⟩ := r.ex
  exact s.tup h1 fun ys z => nomatch z
end
theorem cut_to (xs : List V) (v : Nat) (h : v ≤ xs.length) : cutV xs none (some (v : Int)) = xs.take v := by
  unfold cutV
  rw [HT.sIx_none, HT.sIx_nat, Nat.min_eq_left h]
  rfl
theorem cut_from (xs : List V) (v : Nat) (h : v ≤ xs.length) : cutV xs (some (v : Int)) none = xs.drop v := by
  unfold cutV
  rw [HT.sIx_none, HT.sIx_nat, Nat.min_eq_left h, List.take_of_length_le (by rw [List.length_drop]; omega)]
theorem rgV_ints (n : Nat) : rgV 0 n = (rngI n).map V.int := by
  unfold rgV rngI
  rw [List.map_map]
  simp [Function.comp_def]
theorem perm_pick {fnd rem : List Int} {v : Nat} {x : Int} (h : rem[v]? = some x) : ((fnd ++ [x]) ++ (rem.take v ++ rem.drop (v + 1))).Perm (fnd ++ rem) := by
  obtain ⟨hv, e⟩ := List.getElem?_eq_some_iff.mp h
  have z : rem = rem.take v ++ x :: rem.drop (v + 1) := by
    rw [← e, List.getElem_cons_drop]
    exact (List.take_append_drop v rem).symm
  rw [List.append_assoc]
  refine List.Perm.append_left fnd ?_
  have := (List.perm_middle (a := x) (l₁ := rem.take v) (l₂ := rem.drop (v + 1))).symm
  rw [← z] at this
  exact this
section
variable {P : Program} {w : World} {K : PySem.W.Frag} {mg : Str → Option Value} {base : Heap} {f : Addr} {fd : FuncData}
abbrev CTaken (P : Program) (w : World) (K : PySem.W.Frag) (mg : Str → Option Value) (base : Heap) : Prop := Cal P w K mg base 1 "_law_taken" ["_law_row", "_law_many"] (spTaken K)
def spOrder (K : PySem.W.Frag) : Sp := fun vs H Q _ => ∃ (ro sc : Addr) (ss : List Int) (m : Nat), vs = [.ref ro, .int m] ∧ m ≤ 6 ∧ RowAt K H ro sc ss ∧ ∀ H' p ns, SameB ro H H' → RowAt K H' ro sc ss → H p = none → LstI H' p ns → ns.Perm (rngI m) → Q (.ref p) H'
structure OrdP (K : PySem.W.Frag) (H0 : Hp) (ro sc : Addr) (ss : List Int) (lf p : Addr) (m i : Nat) (H : Hp) : Prop where
  same : SameB ro H0 H
  row : RowAt K H ro sc ss
  f1 : H0 lf = none
  f2 : H0 p = none
  ne : lf ≠ p
  out : ∃ rem fnd : List Int, H lf = some (.lst (rem.map V.int)) ∧ H p = some (.lst (fnd.map V.int)) ∧ (fnd ++ rem).Perm (rngI m) ∧ fnd.length = i
theorem sc__law_order : FnScope ["_law_row", "_law_many", "_law_left_here", "_law_found", "_law_turn", "_law_at"] ["_law_row", "_law_many"] (defScope (topS 28)) := ⟨rfl, rfl, rfl, by decide +kernel, rfl, by decide +kernel, by decide +kernel⟩
theorem ok_order (B : Blt mg) (F : FnP K "_law_order" 28 f fd) (C_law_taken : CTaken P w K mg base) : FnOk P w K mg base CX0 2 f fd ["_law_row", "_law_many"] (spOrder K) := by
  refine F.ok sc__law_order (fun vs H Q E h => ?_) (fun cdv A outer s H vs Q E hr h => ?_)
  · obtain ⟨ro, sc, ss, m, rfl, _⟩ := h
    rfl
  obtain ⟨ro, sc, ss, m, rfl, m6, R, q⟩ := h
  refine ⟨_, PSs.nox (pss_cons (ps_par (i := 2) (j := 3) (by rfl) sc__law_order.nd rfl rfl (by decide) rfl rfl (pa_cons (pe_listRg rfl rfl B.list (prg_1 rfl B.range (pv 1))) (pa_cons (pe_lst pa_nil) pa_nil)) (by rfl))
    (pss_cons (ps_for PassesOwn.never rfl (pi_range1 rfl B.range (pa_cons (pv 1) pa_nil)) (pg_name (i := 4) sc__law_order.nd rfl (.inl rfl))
      (pss_cons (ps_set (i := 5) sc__law_order.nd rfl (.inl rfl) (pe_cal C_law_taken hr (pa_cons (pv 0) (pa_cons (pe_callB call_len_seq (by rfl) B.len boot_len (pa_cons (pv 2) pa_nil)) pa_nil))))
      (pss_cons (ps_expr (pe_bm PySem.F.plainAttrs_list PySem.F.slot_list_append PySem.F.type_list_append mt_append (pv 3) (pa_cons (pe_ix ix_list (pv 2) (pv 5) (fun _ _ => rfl)) pa_nil)))
      (pss_one (ps_set (i := 2) sc__law_order.nd rfl (.inl rfl) (pe_op op_cat (pe_slice sl_list (pv 2) po_none (po_some (pv 5))) (pe_slice sl_list (pv 2) (po_some (pe_op op_add (pv 5) pe_int)) po_none)))))))
    (pss_one (ps_ret (pv 3))))), ?_⟩
  refine ⟨_, rfl, m, rfl, RgOk.of_le (by omega) (by omega) (by omega) (by omega), fun lf hlf => ⟨small (Nat.zero_le _), fun p hp => ⟨_, _, rfl, ?_⟩⟩⟩
  have fp : H p = none := none_of (same_upd hlf) hp
  refine ⟨_, rfl, m, rfl, by omega, by omega, ?_⟩
  refine for_it (walk_range (lo := 0) (n := ((m : Int)).toNat)) (fun i σ H' => ∃ lf y4 y5, σ = [some (.ref ro), some (.int m), some (.ref lf), some (.ref p), y4, y5] ∧ OrdP K H ro sc ss lf p m i H') ⟨lf, none, none, rfl, ?_⟩ (fun _ _ _ _ _ => trivial) ?_ ?_
  · refine ⟨(Same.b (same_upd hlf)).trans (Same.b (same_upd hp)), (R.same (same_upd hlf)).same (same_upd hp), hlf, fp, ne_of_none upd_same hp, rngI m, [], ?_, upd_same, List.Perm.refl _, rfl⟩
    rw [← rgV_ints]
    exact same_upd hp _ _ upd_same
  · rintro i x σ H1 H2 hi ⟨lf, y4, y5, rfl, op⟩ ⟨rfl, rfl⟩
    obtain ⟨rem, fnd, h1, h2, pm, fl⟩ := op.out
    have ln := pm.length_eq
    rw [List.length_append, rngI_len] at ln
    refine ⟨_, rfl, _, rfl, lf, _, rfl, .inl (SqL.of h1), ro, sc, ss, _, rfl, by rw [List.length_map]; omega, by rw [List.length_map]; omega, op.row, fun H3 v sb R3 v0 v1 => ?_⟩
    rw [List.length_map] at v1
    have nlf := R.nw op.f1
    have np := R.nw op.f2
    replace h1 := sb _ _ nlf h1
    replace h2 := sb _ _ np h2
    have sm := op.same.trans sb
    obtain ⟨k, rfl⟩ : ∃ k : Nat, v = (k : Int) := ⟨v.toNat, by omega⟩
    have hk : k < rem.length := by omega
    have ek := List.getElem?_eq_getElem hk
    generalize rem[k] = y at ek
    refine ⟨_, rfl, .inl ⟨rfl, _, SqL.of h2⟩, _, rfl, _, rfl, lf, _, _, .int y, rfl, rfl, SqL.of h1, atI_nat (by rw [List.getElem?_map, ek]; rfl), p, _, _, rfl, rfl, h2, small1000 (by rw [List.length_map]; omega), ?_⟩
    have h1' : upd H3 p (.lst (fnd.map V.int ++ [.int y])) lf = some (.lst (rem.map V.int)) := by
      rw [upd_ne op.ne]
      exact h1
    have h2' : upd H3 p (.lst (fnd.map V.int ++ [.int y])) p = some (.lst ((fnd ++ [y]).map V.int)) := by
      rw [upd_same, List.map_append]
      rfl
    have sm' := sm.out (o := .lst (fnd.map V.int ++ [.int y])) op.f2
    have R4 := R3.out (o := .lst (fnd.map V.int ++ [.int y])) R sm op.f2
    generalize upd H3 p (.lst (fnd.map V.int ++ [.int y])) = H4 at h1' h2' sm' R4
    refine ⟨_, rfl, _, rfl, _, rfl, lf, _, rfl, SqL.of h1', fun p1 hp1 => ⟨_, rfl, _, rfl, _, _, rfl, rfl, _, rfl, lf, _, rfl, SqL.of (same_upd hp1 _ _ h1'), fun p2 hp2 => ⟨p1, p2, _, _, rfl, rfl, same_upd hp2 _ _ upd_same, upd_same, ?_, fun p3 hp3 => ?_⟩⟩⟩
    · have a1 := cutV_length (rem.map V.int) none (some (k : Int))
      have a2 := cutV_length (rem.map V.int) (some ((k : Int) + 1)) none
      rw [List.length_map] at a1 a2
      exact small (by omega)
    have s3 := ((same_upd hp1).trans (same_upd hp2)).trans (same_upd (o := .lst (cutV (rem.map V.int) none (some (k : Int)) ++ cutV (rem.map V.int) (some ((k : Int) + 1)) none)) hp3)
    have e3 : upd (upd (upd H4 p1 (.lst (cutV (rem.map V.int) none (some (k : Int))))) p2 (.lst (cutV (rem.map V.int) (some ((k : Int) + 1)) none))) p3 (.lst (cutV (rem.map V.int) none (some (k : Int)) ++ cutV (rem.map V.int) (some ((k : Int) + 1)) none)) p3 = some (.lst ((rem.take k ++ rem.drop (k + 1)).map V.int)) := by
      rw [upd_same, cut_to _ _ (by rw [List.length_map]; omega), show (k : Int) + 1 = ((k + 1 : Nat) : Int) by omega, cut_from _ _ (by rw [List.length_map]; omega), List.map_append, List.map_take, List.map_drop]
    have n3 := none_of ((same_upd (o := .lst (cutV (rem.map V.int) none (some (k : Int)))) hp1).trans (same_upd (o := .lst (cutV (rem.map V.int) (some ((k : Int) + 1)) none)) hp2)) hp3
    refine ⟨p3, _, _, rfl, sm'.trans (Same.b s3), R4.same s3, noneB sm' (R4.nw n3) n3, op.f2, (ne_of_none h2' n3).symm, _, _, e3, s3 _ _ h2', (perm_pick ek).trans pm, by rw [List.length_append, fl]; rfl⟩
  · rintro σ H1 ⟨lf, y4, y5, rfl, op⟩
    obtain ⟨rem, fnd, h1, h2, pm, fl⟩ := op.out
    have ln := pm.length_eq
    rw [List.length_append, rngI_len] at ln
    have e : rem = [] := List.length_eq_zero_iff.mp (by omega)
    rw [e, List.append_nil] at pm
    exact ⟨_, rfl, q H1 p fnd op.same op.row op.f2 h2 pm⟩
end
end Ck

namespace Ck
open PySem PySem.Spec PyProof.Rows L2
structure EdS (n : Nat) (Ss : List (List Int)) : Prop where
  ok : ∀ S ∈ Ss, ∃ x y : Int, S = [x, y] ∧ 0 ≤ x ∧ x < y ∧ y < n
  nd : Ss.Nodup
def addS (Ss : List (List Int)) (S : List Int) : List (List Int) := if S ∈ Ss then Ss else Ss ++ [S]
theorem putK_old {g : List Int → V} {S : List Int} : ∀ {Ss : List (List Int)}, (tab g Ss).map (fun kv => if kv.1 = key S then (kv.1, g S) else kv) = tab g Ss
  | [] => rfl
  | T :: Ss => by
    have ih := putK_old (g := g) (S := S) (Ss := Ss)
    unfold tab at ih ⊢
    rw [List.map_cons, List.map_cons, ih]
    by_cases e : key T = key S
    · rw [if_pos e, key_inj e]
    · rw [if_neg e]
theorem tab_add (g : List Int → V) (S : List Int) (Ss : List (List Int)) : putK (tab g Ss) (key S) (g S) = tab g (addS Ss S) := by
  unfold addS
  by_cases h : S ∈ Ss
  · rw [if_pos h]
    have a : ((tab g Ss).any fun kv => decide (kv.1 = key S)) = true := by
      rw [valV_any, tab_val, if_pos h]
      rfl
    unfold putK
    rw [if_pos a]
    exact putK_old
  · rw [if_neg h]
    exact tab_put g h
theorem addS_len (Ss : List (List Int)) (S : List Int) : (addS Ss S).length ≤ Ss.length + 1 := by
  unfold addS
  split <;> simp
theorem EdS.add {n : Nat} {Ss : List (List Int)} {x y : Int} (h : EdS n Ss) (x0 : 0 ≤ x) (xy : x < y) (yn : y < n) : EdS n (addS Ss [x, y]) := by
  unfold addS
  split
  · exact h
  · rename_i c
    refine ⟨fun S hS => ?_, nd_snoc h.nd c⟩
    rcases List.mem_append.mp hS with q | q
    · exact h.ok S q
    · exact ⟨x, y, List.mem_singleton.mp q, x0, xy, yn⟩
theorem EdS.put {n : Nat} {Ss : List (List Int)} {a b : Int} (h : EdS n Ss) (a0 : 0 ≤ a) (an : a < n) (b0 : 0 ≤ b) (bn : b < n) (ne : a ≠ b) : EdS n (addS Ss [if b < a then b else a, if b > a then b else a]) := by
  by_cases c : b < a
  · rw [if_pos c, if_neg (by omega)]
    exact h.add b0 c an
  · rw [if_neg c, if_pos (by omega)]
    exact h.add a0 (by omega) bn
def unS (S : List Int) : Int × Int := (S.getD 0 0, S.getD 1 0)
theorem unS_back {Ss : List (List Int)} (h : ∀ S ∈ Ss, ∃ x y : Int, S = [x, y]) : (Ss.map unS).map (fun e => [e.1, e.2]) = Ss := by
  rw [List.map_map]
  conv => rhs; rw [← List.map_id Ss]
  refine List.map_congr_left fun S hS => ?_
  obtain ⟨x, y, rfl⟩ := h S hS
  rfl
theorem EdS.web {n : Nat} {Ss Ts : List (List Int)} (h : EdS n Ss) (p : Ts.Perm Ss) : WebOk n (Ts.map unS) := ⟨fun e he => by
  obtain ⟨S, hS, rfl⟩ := List.mem_map.mp he
  obtain ⟨x, y, rfl, h1, h2, h3⟩ := h.ok S (p.mem_iff.mp hS)
  exact ⟨h1, h2, h3⟩⟩
theorem asc_of {Ts : List (List Int)} (h : Ts.Pairwise fun a b => lle a b = true) (nd : Ts.Nodup) : Ts.Pairwise fun a b => lle b a = false :=
  List.pairwise_iff_getElem.mpr fun i j hi hj hij => lt_of_sorted h nd (List.getElem?_eq_getElem hi) (List.getElem?_eq_getElem hj) hij
structure WbP (K : PySem.W.Frag) (H0 : Hp) (ro sc : Addr) (ss : List Int) (ed nm : Addr) (n : Nat) (ns : List Int) (i : Nat) (H : Hp) : Prop where
  same : SameB ro H0 H
  row : RowAt K H ro sc ss
  f : H0 ed = none
  nm : H nm = some (.lst (ns.map V.int))
  ed : ∃ Ss, H ed = some (.dT (tab ptr Ss)) ∧ EdS n Ss ∧ Ss.length ≤ i
section
variable {K : PySem.W.Frag} {H0 H H' : Hp} {ro sc ed nm : Addr} {ss ns : List Int} {n i : Nat}
theorem WbP.sb (x : WbP K H0 ro sc ss ed nm n ns i H) (s : SameB ro H H') (r : RowAt K H' ro sc ss) : WbP K H0 ro sc ss ed nm n ns i H' := by
  obtain ⟨Ss, h1, h2, h3⟩ := x.ed
  exact ⟨x.same.trans s, r, x.f, s _ _ (x.row.neL x.nm) x.nm, Ss, s _ _ (x.row.neO h1 (fun xs z => nomatch z)) h1, h2, h3⟩
theorem WbP.more (x : WbP K H0 ro sc ss ed nm n ns i H) : WbP K H0 ro sc ss ed nm n ns (i + 1) H := by
  obtain ⟨Ss, h1, h2, h3⟩ := x.ed
  exact ⟨x.same, x.row, x.f, x.nm, Ss, h1, h2, by omega⟩
end
section
variable {P : Program} {w : World} {K : PySem.W.Frag} {mg : Str → Option Value} {base : Heap} {f : Addr} {fd : FuncData}
def spWeb (K : PySem.W.Frag) : Sp := fun vs H Q _ => ∃ (ro sc : Addr) (ss : List Int), vs = [.ref ro, .int 6] ∧ RowAt K H ro sc ss ∧ ∀ H' a n E, SameB ro H H' → RowAt K H' ro sc ss → WebAt H' a n E → WebOk n E → AscE E → 1 ≤ n → n ≤ 6 → Q (.ref a) H'
theorem sc__law_web : FnScope ["_law_row", "_law_most", "_law_many", "_law_edges", "_law_way", "_law_names", "_law_k", "_law_a", "_law_b", "_law_turn"] ["_law_row", "_law_most"] (defScope (topS 29)) := ⟨rfl, rfl, rfl, by decide +kernel, rfl, by decide +kernel, by decide +kernel⟩
theorem ok_web (B : Blt mg) (F : FnP K "_law_web" 29 f fd) (C_law_taken : CTaken P w K mg base) (C_law_order : Cal P w K mg base 2 "_law_order" ["_law_row", "_law_many"] (spOrder K)) : FnOk P w K mg base CX0 3 f fd ["_law_row", "_law_most"] (spWeb K) := by
  refine F.ok sc__law_web (fun vs H Q E h => ?_) (fun cdv A outer s H vs Q E hr h => ?_)
  · obtain ⟨ro, sc, ss, rfl, _⟩ := h
    rfl
  obtain ⟨ro, sc, ss, rfl, R, q⟩ := h
  refine ⟨_, PSs.nox (pss_cons (ps_par (i := 2) (j := 3) (by rfl) sc__law_web.nd rfl rfl (by decide) rfl rfl (pa_cons (pe_op op_add pe_int (pe_cal C_law_taken hr (pa_cons (pv 0) (pa_cons (pv 1) pa_nil)))) (pa_cons pe_dnewT pa_nil)) (by rfl))
    (pss_cons (ps_set (i := 4) sc__law_web.nd rfl (.inl rfl) (pe_cal C_law_taken hr (pa_cons (pv 0) (pa_cons pe_int pa_nil))))
    (pss_cons (ps_set (i := 5) sc__law_web.nd rfl (.inl rfl) (pe_cal C_law_order hr (pa_cons (pv 0) (pa_cons (pv 2) pa_nil))))
    (pss_cons (ps_for PassesOwn.never rfl (pi_range2 (by rfl) B.range (pa_cons pe_int (pa_cons (pv 2) pa_nil))) (pg_name (i := 6) sc__law_web.nd rfl (.inl rfl))
      (pss_one (ps_if (PW.pt (pw_or (pt_cmpR op_ne (pv 4) pe_int (nomark _)) (pw_or1 (pt_cmpR op_gt (pe_cal C_law_taken hr (pa_cons (pv 0) (pa_cons pe_int pa_nil))) pe_int (nomark _)))))
        (pss_cons (ps_par (i := 7) (j := 8) (by rfl) sc__law_web.nd rfl rfl (by decide) rfl rfl (pa_cons (pe_ix ix_list (pv 5) (pv 6) (fun _ _ => rfl)) (pa_cons (pe_ix ix_list (pv 5) (pe_cal C_law_taken hr (pa_cons (pv 0) (pa_cons (pv 6) pa_nil))) (fun _ _ => rfl)) pa_nil)) (by rfl))
        (pss_one (ps_dput (hu_of hr) (pv 3) (pe_tup (pa_cons (pe_callB (call_min2 rfl) (by rfl) B.min boot_min (pa_cons (pv 7) (pa_cons (pv 8) pa_nil))) (pa_cons (pe_callB (call_max2 rfl) (by rfl) B.max boot_max (pa_cons (pv 7) (pa_cons (pv 8) pa_nil))) pa_nil))) pe_bl rfl)))
        pss_nil)))
    (pss_cons (ps_for PassesOwn.never rfl (pi_range1 rfl B.range (pa_cons (pe_ifExp (pt_cmpR op_eq (pv 4) pe_int (nomark _)) (pe_cal C_law_taken hr (pa_cons (pv 0) (pa_cons pe_int pa_nil))) pe_int) pa_nil)) (pg_name (i := 9) sc__law_web.nd rfl (.inl rfl))
      (pss_cons (ps_par (i := 7) (j := 8) (by rfl) sc__law_web.nd rfl rfl (by decide) rfl rfl (pa_cons (pe_cal C_law_taken hr (pa_cons (pv 0) (pa_cons (pv 2) pa_nil))) (pa_cons (pe_cal C_law_taken hr (pa_cons (pv 0) (pa_cons (pv 2) pa_nil))) pa_nil)) (by rfl))
      (pss_one (ps_if (pt_cmpR op_ne (pv 7) (pv 8) (nomark _))
        (pss_one (ps_dput (hu_of hr) (pv 3) (pe_tup (pa_cons (pe_callB (call_min2 rfl) (by rfl) B.min boot_min (pa_cons (pv 7) (pa_cons (pv 8) pa_nil))) (pa_cons (pe_callB (call_max2 rfl) (by rfl) B.max boot_max (pa_cons (pv 7) (pa_cons (pv 8) pa_nil))) pa_nil))) pe_bl rfl))
        pss_nil))))
    (pss_one (ps_ret (pe_tup (pa_cons (pv 2) (pa_cons (pe_callTy call_tuple_of (by rfl) B.tup boot_tuple (pa_cons (pe_callB (cr_sortKT rfl hr.units) (by rfl) B.sorted boot_sorted (pa_cons (pe_bm0 PySem.F.plainAttrs_dict PySem.F.slot_dict_keys PySem.F.type_dict_keys mt_keysT (pv 3)) pa_nil)) pa_nil)) pa_nil)))))))))), ?_⟩
  refine ⟨_, rfl, _, rfl, ro, sc, ss, 6, rfl, by decide, by decide, R, fun H1 v sb R1 v0 v1 => ?_⟩
  obtain ⟨n, hn⟩ : ∃ n : Nat, 1 + v = (n : Int) := ⟨(1 + v).toNat, by omega⟩
  refine ⟨_, _, rfl, rfl, fun ed hed => ⟨.int n, _, by rw [← hn], ?_⟩⟩
  have fe : H ed = none := noneB sb (R1.nw hed) hed
  have nro : ed ≠ ro := R1.nw hed
  refine ⟨_, rfl, ro, sc, ss, 4, rfl, by decide, by decide, R1.same (same_upd hed), fun H2 way sb2 R2 w0 w1 => ?_⟩
  have he2 : H2 ed = some (.dT []) := sb2 _ _ nro upd_same
  have sm2 := (sb.trans (Same.b (same_upd (o := .dT []) hed))).trans sb2
  refine ⟨_, rfl, _, rfl, ro, sc, ss, n, rfl, by omega, R2, fun H3 nm ns sb3 R3 fnm hnm pm => ?_⟩
  have W3 : WbP K H ro sc ss ed nm n ns 0 H3 := ⟨sm2.trans sb3, R3, fe, hnm, [], sb3 _ _ nro he2, ⟨fun S hS => (nomatch hS), List.nodup_nil⟩, Nat.le_refl _⟩
  have nl : ns.length = n := by rw [pm.length_eq, rngI_len]
  have nr : ∀ {j : Nat} {x : Int}, ns[j]? = some x → 0 ≤ x ∧ x < n := fun h => mem_rngI.mp (pm.mem_iff.mp (List.mem_of_getElem? h))
  have nd : ns.Nodup := pm.nodup_iff.mpr (by
    unfold rngI
    exact nd_inj (fun a b e => by omega) List.nodup_range)
  have n16 : 1 ≤ n ∧ n ≤ 6 := by omega
  refine ⟨_, rfl, 1, n, rfl, ⟨by omega, by omega, by omega, by omega⟩, ?_⟩
  refine for_it (walk_range (lo := 1) (n := ((n : Int) - 1).toNat)) (fun i σ H' => ∃ y6 y7 y8, σ = [some (.ref ro), some (.int 6), some (.int n), some (.ref ed), some (.int way), some (.ref nm), y6, y7, y8, none] ∧ WbP K H ro sc ss ed nm n ns i H') ⟨none, none, none, rfl, W3⟩ (fun _ _ _ _ _ => trivial) ?_ ?_
  · rintro i x σ H4 H5 hi ⟨y6, y7, y8, rfl, W⟩ ⟨rfl, rfl⟩
    have hk1 : 1 + i < ns.length := by omega
    refine ⟨_, rfl, rfl, _, rfl, ite2 (fun _ => ?_) (fun _ => ?_)⟩
    rotate_left
    refine ⟨_, rfl, ro, sc, ss, 4, rfl, by decide, by decide, W.row, fun H6 v6 sb6 R6 _ _ => ?_⟩
    replace W := W.sb sb6 R6
    refine ⟨_, _, rfl, rfl, _, rfl, ite2 (fun _ => ?_) (fun _ => ⟨_, _, _, rfl, W.more⟩)⟩
    all_goals
      have hx : ns[1 + i]? = some ns[1 + i] := List.getElem?_eq_getElem hk1
      generalize ns[1 + i] = x at hx
      have ck : (1 : Int) + (i : Nat) = ((1 + i : Nat) : Int) := by omega
      refine ⟨_, rfl, _, rfl, nm, _, _, .int x, rfl, rfl, SqL.of W.nm, by rw [ck]; exact atI_nat (by rw [List.getElem?_map, hx]; rfl), _, rfl, _, rfl, _, rfl, ro, sc, ss, _, rfl, by omega, by omega, W.row, fun H7 v7 sb7 R7 p0 p1 => ?_⟩
      replace W := W.sb sb7 R7
      obtain ⟨j, rfl⟩ : ∃ j : Nat, v7 = (j : Int) := ⟨v7.toNat, by omega⟩
      have hj : j < ns.length := by omega
      have hy : ns[j]? = some ns[j] := List.getElem?_eq_getElem hj
      generalize ns[j] = y at hy
      have xy : x ≠ y := fun e => by
        obtain ⟨a1, a2⟩ := List.getElem?_eq_some_iff.mp hx
        obtain ⟨b1, b2⟩ := List.getElem?_eq_some_iff.mp hy
        exact List.pairwise_iff_getElem.mp nd j (1 + i) b1 a1 (by omega) (by rw [a2, b2, e])
      refine ⟨nm, _, _, .int y, rfl, rfl, SqL.of W.nm, atI_nat (by rw [List.getElem?_map, hy]; rfl), _, _, rfl, ?_⟩
      obtain ⟨Ss, g1, g2, g3⟩ := W.ed
      refine ⟨_, rfl, _, rfl, _, rfl, _, _, rfl, _, rfl, _, rfl, _, _, rfl, small (Nat.le_of_ble_eq_true rfl), fun T hT => ?_⟩
      have sT := same_upd (o := .tup [.int (if y < x then y else x), .int (if y > x then y else x)]) hT
      refine ⟨ed, _, rfl, DPut.t (k := key [if y < x then y else x, if y > x then y else x]) (sT _ _ g1) (key_tup (by exact upd_same)) (by rw [tab_len]; exact small1000 (by omega)), ?_⟩
      rw [show V.bl true = ptr [if y < x then y else x, if y > x then y else x] from rfl, tab_add]
      have al := addS_len Ss [if y < x then y else x, if y > x then y else x]
      refine ⟨_, _, _, rfl, (W.same.trans (Same.b sT)).out fe, (W.row.same sT).out R (W.same.trans (Same.b sT)) fe, fe, ?_, _, upd_same, g2.put (nr hx).1 (nr hx).2 (nr hy).1 (nr hy).2 xy, by omega⟩
      rw [upd_ne (ne_obj (sT _ _ W.nm) (sT _ _ g1) (fun z => nomatch z))]
      exact sT _ _ W.nm
  · rintro σ H4 ⟨y6, y7, y8, rfl, W⟩
    refine ⟨_, rfl, rfl, _, rfl, ite2 (fun _ => ?_) (fun _ => ?_)⟩
    refine ⟨_, rfl, ro, sc, ss, 4, rfl, by decide, by decide, W.row, fun H5 t sb5 R5 t0 t1 => ?_⟩
    replace W := W.sb sb5 R5
    rotate_left
    have t0 : (0 : Int) ≤ 0 := Int.le_refl _
    have t1 : (0 : Int) < 4 := by decide
    all_goals
      refine ⟨_, rfl, by omega, by omega, ?_⟩
      refine for_it (walk_range (lo := 0) (n := Int.toNat _)) (fun i σ H' => ∃ y6 y7 y8 y9, σ = [some (.ref ro), some (.int 6), some (.int n), some (.ref ed), some (.int way), some (.ref nm), y6, y7, y8, y9] ∧ WbP K H ro sc ss ed nm n ns (((n : Int) - 1).toNat + i) H') ⟨_, _, _, _, rfl, W⟩ (fun _ _ _ _ _ => trivial) ?_ ?_
      · rintro i x σ H6 H7 hi ⟨y6, y7, y8, y9, rfl, W⟩ ⟨rfl, rfl⟩
        refine ⟨_, rfl, _, rfl, ro, sc, ss, n, rfl, by omega, by omega, W.row, fun H8 a sb8 R8 a0 an => ?_⟩
        replace W := W.sb sb8 R8
        refine ⟨_, rfl, _, rfl, ro, sc, ss, n, rfl, by omega, by omega, W.row, fun H9 b sb9 R9 b0 bn => ⟨_, _, rfl, ?_⟩⟩
        replace W := W.sb sb9 R9
        refine ⟨_, rfl, _, rfl, rfl, _, rfl, ite2 (fun c => ?_) (fun _ => ⟨_, _, _, _, rfl, W.more⟩)⟩
        have ab : a ≠ b := fun e => by
          rw [e] at c
          simp at c
        obtain ⟨Ss, g1, g2, g3⟩ := W.ed
        refine ⟨_, rfl, _, rfl, _, rfl, _, _, rfl, _, rfl, _, rfl, _, _, rfl, small (Nat.le_of_ble_eq_true rfl), fun T hT => ?_⟩
        have sT := same_upd (o := .tup [.int (if b < a then b else a), .int (if b > a then b else a)]) hT
        refine ⟨ed, _, rfl, DPut.t (k := key [if b < a then b else a, if b > a then b else a]) (sT _ _ g1) (key_tup (by exact upd_same)) (by rw [tab_len]; exact small1000 (by omega)), ?_⟩
        rw [show V.bl true = ptr [if b < a then b else a, if b > a then b else a] from rfl, tab_add]
        have al := addS_len Ss [if b < a then b else a, if b > a then b else a]
        refine ⟨_, _, _, _, rfl, (W.same.trans (Same.b sT)).out fe, (W.row.same sT).out R (W.same.trans (Same.b sT)) fe, fe, ?_, _, upd_same, g2.put a0 an b0 bn ab, by omega⟩
        rw [upd_ne (ne_obj (sT _ _ W.nm) (sT _ _ g1) (fun z => nomatch z))]
        exact sT _ _ W.nm
      · rintro σ H6 ⟨y6, y7, y8, y9, rfl, W⟩
        obtain ⟨Ss, g1, g2, g3⟩ := W.ed
        refine ⟨_, rfl, _, rfl, .inr (.inr (.inl ⟨rfl, .inr ⟨_, g1⟩⟩)), ed, _, rfl, rfl, g1, fun V1 hV1 => ?_⟩
        have fk : FstOk Ss := .inl fun S hS e => by
          obtain ⟨x, y, e2, _⟩ := g2.ok S hS
          rw [e2] at e
          cases e
        refine ⟨V1, ed, _, Ss, rfl, upd_same, same_upd hV1 _ _ g1, tab_keys _ _, fk, fun p ys Ts hp tl pm2 pw => ⟨p, _, rfl, .inl ⟨SqL.of upd_same, fun t ht => ⟨small (Nat.le_of_ble_eq_true rfl), fun a ha => ?_⟩⟩⟩⟩
        have s1 := same_upd (o := keysO V1 ed) hV1
        have s2 := same_upd (o := .lst ys) hp
        have s3 := same_upd (o := .tup ys) ht
        have s4 := same_upd (o := .tup [.int n, .ref t]) ha
        have s14 := ((s1.trans s2).trans s3).trans s4
        have bk : (Ts.map unS).map (fun e => [e.1, e.2]) = Ts := unS_back fun S hS => by
          obtain ⟨x, y, e2, _⟩ := g2.ok S (pm2.mem_iff.mp hS)
          exact ⟨x, y, e2⟩
        refine q _ a n (Ts.map unS) (W.same.trans (Same.b s14)) (W.row.same s14) ⟨t, ys, upd_same, s4 _ _ upd_same, ?_⟩ (g2.web pm2) ?_ n16.1 n16.2
        · rw [bk]
          exact TL.same ((s2.trans s3).trans s4) tl
        · unfold AscE
          rw [bk]
          exact asc_of pw (pm2.nodup_iff.mpr g2.nd)
end
end Ck

namespace Ck
open PySem PySem.Spec PyProof.Rows L2
def NearAt (H : Hp) (nr : Addr) (n : Nat) (E : Edges) : Prop := ∃ rs : List Addr, H nr = some (.lst (rs.map V.ref)) ∧ rs.length = n ∧ ∀ (k : Nat) r, rs[k]? = some r → LstI H r (nb E (k : Int))
theorem NearAt.same {H H' : Hp} {nr : Addr} {n : Nat} {E : Edges} (x : NearAt H nr n E) (s : Same H H') : NearAt H' nr n E := by
  obtain ⟨rs, h1, h2, h3⟩ := x
  exact ⟨rs, s _ _ h1, h2, fun k r e => s _ _ (h3 k r e)⟩
theorem NearAt.sb {K : PySem.W.Frag} {H H' : Hp} {nr ro sc : Addr} {ns : List Int} {n : Nat} {E : Edges} (x : NearAt H nr n E) (R : RowAt K H ro sc ns) (s : SameB ro H H') : NearAt H' nr n E := by
  obtain ⟨rs, h1, h2, h3⟩ := x
  obtain ⟨i, z, c, e⟩ := R.ex
  refine ⟨rs, s _ _ (ne_obj h1 e fun q => ?_) h1, h2, fun k r e => s _ _ (R.neL (h3 k r e)) (h3 k r e)⟩
  cases rs with
  | nil => cases q
  | cons r rs =>
    cases rs with
    | nil => cases q
    | cons r rs => cases q
structure NearR (H : Hp) (nr : Addr) (rs : List Addr) (n : Nat) (E : Edges) : Prop where
  h : H nr = some (.lst (rs.map V.ref))
  len : rs.length = n
  get : ∀ (k : Nat) r, rs[k]? = some r → LstI H r (nb E (k : Int))
theorem NearR.near {H : Hp} {nr : Addr} {rs : List Addr} {n : Nat} {E : Edges} (x : NearR H nr rs n E) : NearAt H nr n E := ⟨rs, x.h, x.len, x.get⟩
theorem NearR.same {H H' : Hp} {nr : Addr} {rs : List Addr} {n : Nat} {E : Edges} (x : NearR H nr rs n E) (s : Same H H') : NearR H' nr rs n E :=
  ⟨s _ _ x.h, x.len, fun k r e => s _ _ (x.get k r e)⟩
theorem NearR.sb {H H' : Hp} {nr c : Addr} {rs : List Addr} {n : Nat} {E : Edges} (x : NearR H nr rs n E) (h1 : nr ≠ c) (h2 : ∀ r ∈ rs, r ≠ c) (s : SameB c H H') : NearR H' nr rs n E :=
  ⟨s _ _ h1 x.h, x.len, fun k r e => s _ _ (h2 r (List.mem_of_getElem? e)) (x.get k r e)⟩
section
variable {P : Program} {w : World} {K : PySem.W.Frag} {mg : Str → Option Value} {base : Heap} {f : Addr} {fd : FuncData}
def spNear : Sp := fun vs H Q _ => ∃ (a : Addr) (n : Nat) (E : Edges), vs = [.ref a] ∧ WebAt H a n E ∧ n ≤ 6 ∧ E.length ≤ 1000 ∧ ∀ H' nr rs, Same H H' → H nr = none → (∀ r ∈ rs, H r = none) → NearR H' nr rs n E → Q (.ref nr) H'
structure NrP (n : Nat) (E : Edges) (D : Addr) (H1 : Hp) (i : Nat) (H : Hp) : Prop where
  same : Same H1 H
  out : ∃ rs : List Addr, H D = some (.lst (rs.map V.ref)) ∧ rs.length = i ∧ (∀ (k : Nat) r, rs[k]? = some r → LstI H r (nb E (k : Int))) ∧ ∀ r ∈ rs, H1 r = none
theorem sc__law_near : FnScope ["_law_web_here", "_law_k", "_law_a", "_law_b"] ["_law_web_here"] (defScope (topS 30)) := ⟨rfl, rfl, rfl, by decide +kernel, rfl, by decide +kernel, by decide +kernel⟩
theorem ok_near (B : Blt mg) (F : FnP K "_law_near" 30 f fd) : FnOk P w K mg base CX0 1 f fd ["_law_web_here"] spNear := by
  refine F.ok sc__law_near (fun vs H Q E h => ?_) (fun cdv A outer s H vs Q E hr h => ?_)
  · obtain ⟨a, n, E, rfl, _⟩ := h
    rfl
  obtain ⟨a, n, Ed, rfl, W, n6, el, q⟩ := h
  obtain ⟨et, xs, ha, he, tl⟩ := W.ex
  have xl : xs.length = Ed.length := by rw [TL.len tl, List.length_map]
  refine ⟨_, PSs.nox (pss_one (ps_ret (pe_lc (own := [("_law_k", 1)]) (g := gName 1) (by rfl) sc__law_near.nd (pi_range1 rfl B.range (pa_cons (pe_ix ix_tup (pv 0) pe_int (fun _ _ => rfl)) pa_nil)) (blkOk_by (own := [("_law_k", 1)]) (N := ["_law_web_here", "_law_k", "_law_a", "_law_b"]) (sc := defScope (topS 30)) (by decide +kernel)) (fun _ _ _ _ _ => (pg_name (i := 1) sc__law_near.nd rfl (by first | exact .inl rfl | exact .inr rfl))) (fun _ _ _ _ _ => pts_nil) (fun _ _ _ _ _ => (pe_lc (wi := iTup K _) (own := [("_law_a", 2), ("_law_b", 3)]) (g := gTup K 2 (gCons (gName 2) (gCons (gName 3) gNil))) (by rfl) sc__law_near.nd (pi_tup (pe_ix (r := rIxT K) ix_tup (pv 0) pe_int (fun _ _ => rfl))) (blkOk_by (own := [("_law_a", 2), ("_law_b", 3)]) (N := ["_law_web_here", "_law_k", "_law_a", "_law_b"]) (sc := { kind := .function, names := [(".0", .local), ("_law_k", .cell), ("_law_web_here", .cell)], isGenerator := false, isCoroutine := false }) (by decide +kernel)) (fun _ _ _ _ _ => (pg_tup (by rfl) (pgs_cons (pg_name (i := 2) sc__law_near.nd rfl (by first | exact .inl rfl | exact .inr rfl)) (pgs_cons (pg_name (i := 3) sc__law_near.nd rfl (by first | exact .inl rfl | exact .inr rfl)) pgs_nil)))) (fun _ _ _ _ _ => (pts_one (pt_cmpR (r := rIn K false) op_in_seq (pv 1) (pe_lst (pa_cons (pv 2) (pa_cons (pv 3) pa_nil))) (by rfl)))) (fun _ _ _ _ _ => (pe_op op_sub (pe_op op_add (pv 2) (pv 3)) (pv 1)))))))), ?_⟩
  refine ⟨_, rfl, a, _, 0, .int n, rfl, rfl, SqT.of ha, rfl, n, rfl, by omega, by omega, fun D hD => ?_⟩
  refine lc_it (walk_range (lo := 0) (n := ((n : Int)).toNat)) (NrP n Ed D H) ⟨same_upd hD, [], upd_same, rfl, fun k r e => by simp at e, fun r h => by cases h⟩ (fun _ _ _ _ => trivial) ?_ ?_
  · rintro i x H1 H2 hi p ⟨rfl, rfl⟩
    refine ⟨rfl, ?_⟩
    unfold tYes
    refine iteT ?_
    refine ⟨_, rfl, a, _, 1, .ref et, rfl, rfl, SqT.of (p.same _ _ ha), rfl, et, rfl, ⟨_, SqT.of (p.same _ _ he)⟩, fun D2 hD2 => ?_⟩
    have e0 : (0 : Int) + (i : Nat) = (i : Nat) := by omega
    refine lc_it (walk_tup (xs := xs)) (LcP H2 D2 (outF (fun e : Int × Int => decide (e.1 = (i : Nat)) || decide (e.2 = (i : Nat))) (fun e => .int (e.1 + e.2 - (0 + (i : Nat)))) Ed)) (LcP.start hD2 outF_zero) (fun j H1 _ p2 => SqT.of (p2.1 _ _ (p.same _ _ he))) ?_ ?_
    · rintro j x H3 H4 hj p2 ⟨rfl, ex⟩
      obtain ⟨ea, S, rfl, hS, hea⟩ := TL.get (TL.same (p.same.trans p2.1) tl) ex
      rw [List.getElem?_map] at hS
      cases ee : Ed[j]? with
      | none => rw [ee] at hS; cases hS
      | some e =>
        rw [ee] at hS
        cases hS
        refine ⟨ea, _, rfl, SqT.of hea, rfl, _, _, rfl, _, _, rfl, rfl, rfl, ?_⟩
        refine ⟨_, rfl, _, rfl, _, rfl, small (Nat.le_of_ble_eq_true rfl), fun T hT => ⟨T, [.int e.1, .int e.2], rfl, .inl (SqL.of upd_same), rfl, rfl, _, rfl, ?_⟩⟩
        have p3 := p2.tmp (same_upd (o := .lst [.int e.1, .int e.2]) hT)
        have ei : inV (.int (0 + (i : Nat))) [.int e.1, .int e.2] = (decide (e.1 = (i : Nat)) || decide (e.2 = (i : Nat))) := by
          have := inV_int (0 + (i : Nat)) [e.1, e.2]
          rw [show ([V.int e.1, V.int e.2]) = [e.1, e.2].map V.int from rfl, this, e0]
          rw [Bool.eq_iff_iff]
          simp only [decide_eq_true_eq, Bool.or_eq_true, List.mem_cons, List.not_mem_nil, or_false]
          exact ⟨fun h => h.imp Eq.symm Eq.symm, fun h => h.imp Eq.symm Eq.symm⟩
        refine ite2 (fun c => ?_) (fun c => ?_)
        · exact ⟨_, rfl, _, rfl, _, _, rfl, rfl, _, rfl, _, _, rfl, rfl, LcP.put hD2 p3 (outF_len el) (outF_yes ee (ei.symm.trans c))⟩
        · exact LcP.skip p3 (outF_no ee (ei.symm.trans (Bool.eq_false_iff.mpr c)))
    · rintro H3 p2
      have pd := p2.2
      rw [xl, outF_all] at pd
      have e2 : ((Ed.filter fun e : Int × Int => decide (e.1 = (i : Nat)) || decide (e.2 = (i : Nat))).map fun e => V.int (e.1 + e.2 - (0 + (i : Nat)))) = (nb Ed (i : Nat)).map V.int := by
        unfold nb
        rw [List.map_map, e0]
        rfl
      rw [e2] at pd
      obtain ⟨rs, h1, h2, h3, h4⟩ := p.out
      have h1' := p2.1 _ _ h1
      refine ⟨_, h1', small1000 (by rw [List.length_map, h2]; omega), ⟨outN (p.same.trans p2.1) hD, rs ++ [D2], by rw [upd_same, List.map_append]; rfl, by simp [h2], fun k r e => ?_, fun r hr => ?_⟩⟩
      rotate_left
      · rcases List.mem_append.mp hr with z | z
        · exact h4 r z
        · rw [List.mem_singleton.mp z]
          exact none_of p.same hD2
      have keep : ∀ {r : Addr} {S : List Int}, H3 r = some (.lst (S.map V.int)) → r ≠ D → LstI (upd H3 D (.lst (rs.map V.ref ++ [.ref D2]))) r S := fun {r S} h n => by
        show upd _ _ _ _ = _
        rw [upd_ne n]
        exact h
      by_cases kl : k < rs.length
      · rw [List.getElem?_append_left kl] at e
        have g := h3 k r e
        refine keep (p2.1 _ _ g) fun z => ?_
        rw [z] at g
        rw [show H2 D = some (.lst ((nb Ed (k : Int)).map V.int)) from g] at h1
        have q1 := Option.some.inj h1
        cases rs with
        | nil => simp at kl
        | cons r0 rs =>
          cases z2 : nb Ed (k : Int) with
          | nil => rw [z2] at q1; cases q1
          | cons _ _ => rw [z2] at q1; cases q1
      · have kk : k = rs.length := by
          have := (List.getElem?_eq_some_iff.mp e).1
          simp at this
          omega
        rw [kk, List.getElem?_append_right (Nat.le_refl _)] at e
        simp at e
        rw [← e, kk, h2]
        refine keep pd fun z => ?_
        rw [z] at hD2
        rw [hD2] at h1
        cases h1
  · rintro H1 p
    obtain ⟨rs, h1, h2, h3, h4⟩ := p.out
    exact q H1 D rs p.same hD h4 ⟨h1, by rw [h2, Int.toNat_natCast], h3⟩
def spLHeads : Sp := fun vs H Q _ => ∃ (l : Addr) (B : List Int), vs = [.ref l] ∧ TupI H l B ∧ B.length ≤ 1000 ∧ ∀ H' p, Same H H' → LstI H' p (heads B) → Q (.ref p) H'
theorem sc__law_heads : FnScope ["_law_laying_here", "_law_k"] ["_law_laying_here"] (defScope (topS 34)) := ⟨rfl, rfl, rfl, by decide +kernel, rfl, by decide +kernel, by decide +kernel⟩
theorem ok_lheads (B : Blt mg) (F : FnP K "_law_heads" 34 f fd) : FnOk P w K mg base CX0 1 f fd ["_law_laying_here"] spLHeads := by
  refine F.ok sc__law_heads (fun vs H Q E h => ?_) (fun cdv A outer s H vs Q E hr h => ?_)
  · obtain ⟨l, Bs, rfl, _⟩ := h
    rfl
  obtain ⟨l, Bs, rfl, hl, bl, q⟩ := h
  refine ⟨_, PSs.nox (pss_one (ps_ret (pe_lc (own := [("_law_k", 1)]) (g := gName 1) (by rfl) sc__law_heads.nd (pi_range1 rfl B.range (pa_cons (pe_callB call_len_seq (by rfl) B.len boot_len (pa_cons (pv 0) pa_nil)) pa_nil)) (blkOk_by (own := [("_law_k", 1)]) (N := ["_law_laying_here", "_law_k"]) (sc := defScope (topS 34)) (by decide +kernel)) (fun _ _ _ _ _ => (pg_name (i := 1) sc__law_heads.nd rfl (by first | exact .inl rfl | exact .inr rfl))) (fun _ _ _ _ _ => (pts_one (pt_cmpR op_eq (pe_ix (r := rIxT K) ix_tup (pv 0) (pv 1) (fun _ _ => rfl)) pe_int (nomark _)))) (fun _ _ _ _ _ => (pv 1))))), ?_⟩
  refine ⟨_, rfl, l, _, rfl, .inr (SqT.of hl), Bs.length, by rw [List.length_map], by omega, by omega, fun D hD => ?_⟩
  refine lc_it (walk_range (lo := 0) (n := ((Bs.length : Int)).toNat)) (LcP H D (outF (fun k : Nat => decide (Bs.getD k 0 = 1)) (fun k : Nat => .int (0 + (k : Int))) (List.range Bs.length))) (LcP.start hD outF_zero) (fun _ _ _ _ => trivial) ?_ ?_
  · rintro i x H1 H2 hi p ⟨rfl, rfl⟩
    have hi : i < Bs.length := by omega
    have eg : Bs.getD i 0 = Bs[i] := by simp [hi]
    have er : (List.range Bs.length)[i]? = some i := by simp [hi]
    have e0 : (0 : Int) + (i : Nat) = (i : Nat) := by omega
    refine ⟨rfl, _, rfl, _, rfl, l, _, _, .int Bs[i], rfl, rfl, SqT.of (p.1 _ _ hl), by rw [e0]; exact atI_nat (by rw [List.getElem?_map, List.getElem?_eq_getElem hi]; rfl), rfl, _, rfl, ?_⟩
    rw [dec_int]
    refine ite2 (fun c => ?_) (fun c => ?_)
    · refine ⟨_, rfl, ?_⟩
      refine LcP.put hD p (outF_len (by simpa using bl)) (outF_yes er ?_)
      rw [eg]
      simpa using c
    · refine LcP.skip p (outF_no er ?_)
      rw [eg]
      simpa using c
  · rintro H1 p
    refine q H1 D p.1 ?_
    have pd := p.2
    rw [Int.toNat_natCast] at pd
    have e2 : outF (fun k : Nat => decide (Bs.getD k 0 = 1)) (fun k : Nat => .int (0 + (k : Int))) (List.range Bs.length) Bs.length = (heads Bs).map V.int := by
      have z := outF_all (p := fun k : Nat => decide (Bs.getD k 0 = 1)) (f := fun k : Nat => V.int (0 + (k : Int))) (xs := List.range Bs.length)
      rw [List.length_range] at z
      rw [z]
      unfold heads
      rw [List.map_map]
      simp [Function.comp_def]
    rw [e2] at pd
    exact pd
theorem NearAt.get {H : Hp} {nr : Addr} {n : Nat} {E : Edges} {k : Int} (x : NearAt H nr n E) (k0 : 0 ≤ k) (kn : k < n) : ∃ rs r, H nr = some (.lst rs) ∧ atI rs k = some (V.ref r) ∧ LstI H r (nb E k) := by
  obtain ⟨rs, h1, h2, h3⟩ := x
  obtain ⟨j, rfl⟩ : ∃ j : Nat, k = (j : Int) := ⟨k.toNat, by omega⟩
  have hj : j < rs.length := by omega
  refine ⟨_, rs[j], h1, atI_nat ?_, h3 j _ (List.getElem?_eq_getElem hj)⟩
  rw [List.getElem?_map, List.getElem?_eq_getElem hj]
  rfl
theorem at_int {B : List Int} {x : Int} (x0 : 0 ≤ x) (xn : x < B.length) : atI (B.map V.int) x = some (.int (B.getD x.toNat 0)) ∧ ixN (B.map V.int).length x = some x.toNat := by
  obtain ⟨j, rfl⟩ : ∃ j : Nat, x = (j : Int) := ⟨x.toNat, by omega⟩
  have hj : j < B.length := by omega
  refine ⟨atI_nat ?_, ?_⟩
  · rw [List.getElem?_map, List.getElem?_eq_getElem hj]
    simp [hj]
  · unfold ixN
    rw [if_pos x0, if_pos (by rw [List.length_map]; exact xn)]
theorem set_int (B : List Int) (j : Nat) (v : Int) : (B.map V.int).set j (.int v) = (B.set j v).map V.int := by
  rw [List.map_set]
def spTake : Sp := fun vs H Q _ => ∃ (nr l : Addr) (E : Edges) (B : List Int) (k : Int), vs = [.ref nr, .ref l, .int k] ∧ NearAt H nr B.length E ∧ TupI H l B ∧ WebOk B.length E ∧ 0 ≤ k ∧ k < B.length ∧ ∀ H' p, Same H H' → TupI H' p (takeL E B k) → Q (.ref p) H'
theorem sc__law_take : FnScope ["_law_near_here", "_law_laying_here", "_law_place", "_law_found", "_law_k"] ["_law_near_here", "_law_laying_here", "_law_place"] (defScope (topS 33)) := ⟨rfl, rfl, rfl, by decide +kernel, rfl, by decide +kernel, by decide +kernel⟩
theorem ok_take (B : Blt mg) (F : FnP K "_law_take" 33 f fd) : FnOk P w K mg base CX0 1 f fd ["_law_near_here", "_law_laying_here", "_law_place"] spTake := by
  refine F.ok sc__law_take (fun vs H Q E h => ?_) (fun cdv A outer s H vs Q E hr h => ?_)
  · obtain ⟨nr, l, E, B, k, rfl, _⟩ := h
    rfl
  obtain ⟨nr, l, Ed, Bs, k, rfl, N, hl, ok, k0, kn, q⟩ := h
  refine ⟨_, PSs.nox (pss_cons (ps_set (i := 3) sc__law_take.nd rfl (.inl rfl) (pe_callTy call_list_of (by rfl) B.list boot_list (pa_cons (pv 1) pa_nil)))
    (pss_cons (ps_for PassesOwn.never rfl (pi_list (pe_ix ix_list (pv 0) (pv 2) (fun _ _ => rfl))) (pg_name (i := 4) sc__law_take.nd rfl (.inl rfl))
      (pss_one (ps_asg (pe_ifExp (pt_cmpR op_eq (pe_ix ix_list (pv 3) (pv 4) (fun _ _ => rfl)) pe_int (nomark _)) pe_int (pe_op op_sub pe_int (pe_ix ix_list (pv 3) (pv 4) (fun _ _ => rfl)))) (pg_sub (pv 3) (pv 4) set_list))))
    (pss_cons (ps_asg pe_int (pg_sub (pv 3) (pv 2) set_list))
    (pss_one (ps_ret (pe_callTy call_tuple_of (by rfl) B.tup boot_tuple (pa_cons (pv 3) pa_nil))))))), ?_⟩
  refine ⟨_, rfl, l, _, rfl, .inr (SqT.of hl), fun fo hfo => ?_⟩
  obtain ⟨rs, r, g1, g2, g3⟩ := (N.same (same_upd (o := .lst (Bs.map V.int)) hfo)).get k0 kn
  have nrr : r ≠ fo := fun z => by
    obtain ⟨rs', h1, h2, h3⟩ := N
    obtain ⟨j, rfl⟩ : ∃ j : Nat, k = (j : Int) := ⟨k.toNat, by omega⟩
    have hj : j < rs'.length := by omega
    have e := h3 j _ (List.getElem?_eq_getElem hj)
    have h1' : upd H fo (.lst (Bs.map V.int)) nr = _ := same_upd hfo _ _ h1
    rw [h1'] at g1
    cases g1
    have g2' : atI (rs'.map V.ref) (j : Int) = some (.ref rs'[j]) := atI_nat (by rw [List.getElem?_map, List.getElem?_eq_getElem hj]; rfl)
    rw [g2'] at g2
    cases g2
    rw [z] at e
    rw [show H fo = some (.lst ((nb Ed (j : Int)).map V.int)) from e] at hfo
    cases hfo
  refine ⟨_, rfl, _, rfl, nr, rs, k, .ref r, rfl, rfl, SqL.of g1, g2, r, rfl, ⟨_, SqL.of g3⟩, ?_⟩
  refine for_it (walk_list (xs := (nb Ed k).map V.int)) (fun i σ H' => ∃ y4, σ = [some (.ref nr), some (.ref l), some (.int k), some (.ref fo), y4] ∧ SameB fo (upd H fo (.lst (Bs.map V.int))) H' ∧ LstI H' fo (flips Bs ((nb Ed k).take i))) ⟨none, rfl, SameB.refl _ _, upd_same⟩ (fun i σ H' _ ⟨_, _, sm, _⟩ => SqL.of (sm _ _ nrr g3)) ?_ ?_
  · rintro i x σ H1 H2 hi ⟨y4, rfl, sm, hf⟩ ⟨rfl, ex⟩
    rw [List.getElem?_map] at ex
    cases ez : (nb Ed k)[i]? with
    | none => rw [ez] at ex; cases ex
    | some x =>
      rw [ez] at ex
      cases ex
      have xr := nb_rng ok (List.mem_of_getElem? ez)
      have fl := flips_len ((nb Ed k).take i) Bs
      generalize eB : flips Bs ((nb Ed k).take i) = C at hf fl
      obtain ⟨a1, a2⟩ := at_int (B := C) xr.1 (by omega)
      have nxt : ∀ v, v = (if C.getD x.toNat 0 = 2 then 2 else 1 - C.getD x.toNat 0) → SameB fo (upd H fo (.lst (Bs.map V.int))) (upd H2 fo (.lst ((C.map V.int).set x.toNat (.int v)))) ∧ LstI (upd H2 fo (.lst ((C.map V.int).set x.toNat (.int v)))) fo (flips Bs ((nb Ed k).take (i + 1))) := fun v e => by
        refine ⟨sm.trans sameB_upd, ?_⟩
        show upd _ _ _ _ = _
        rw [upd_same, set_int, take_push ez]
        unfold flips at eB ⊢
        rw [List.foldl_append, eB, e]
        rfl
      refine ⟨_, rfl, _, rfl, fo, _, x, _, rfl, rfl, SqL.of hf, a1, rfl, _, rfl, ?_⟩
      rw [dec_int]
      refine ite2 (fun c => ?_) (fun c => ?_)
      · have c1 : C.getD x.toNat 0 = 2 := by simpa using c
        exact ⟨_, rfl, _, rfl, fo, _, x, _, rfl, rfl, hf, a2, _, rfl, nxt 2 (by rw [if_pos c1])⟩
      · have c1 : ¬ C.getD x.toNat 0 = 2 := by simpa using c
        exact ⟨_, rfl, _, rfl, fo, _, x, _, rfl, rfl, SqL.of hf, a1, _, _, rfl, rfl, _, rfl, _, rfl, fo, _, x, _, rfl, rfl, hf, a2, _, rfl, nxt _ (by rw [if_neg c1])⟩
  · rintro σ H1 ⟨y4, rfl, sm, hf⟩
    rw [List.length_map, List.take_length] at hf
    have fl := flips_len (nb Ed k) Bs
    obtain ⟨a1, a2⟩ := at_int (B := flips Bs (nb Ed k)) k0 (by omega)
    refine ⟨_, rfl, _, rfl, fo, _, k, _, rfl, rfl, hf, a2, _, rfl, fo, _, rfl, .inl ⟨SqL.of upd_same, fun t ht => ?_⟩⟩
    refine q _ t ?_ ?_
    · have s1 : Same H H1 := fun b o e => sm b o (ne_of_none e hfo) (same_upd hfo _ _ e)
      have s2 : Same H (upd H1 fo (.lst (((flips Bs (nb Ed k)).map V.int).set k.toNat (.int 2)))) := fun b o e => by
        rw [upd_ne (ne_of_none e hfo)]
        exact s1 _ _ e
      exact s2.trans (same_upd ht)
    · show upd _ _ _ _ = _
      rw [upd_same, set_int]
      rfl
def spLBeh : Sp := fun vs H Q _ => ∃ (nr l s : Addr) (E : Edges) (L S : List Int), vs = [.ref nr, .ref l, .ref s] ∧ NearAt H nr L.length E ∧ TupI H l L ∧ TupI H s S ∧ E.length ≤ 1000 ∧ L.length ≤ 6 ∧ ∀ H' p, Same H H' → TupI H' p (beh E L S) → Q (.ref p) H'
def outI (E : Edges) (L S : List Int) (i : Nat) : List V := ((beh E L S).take i).map V.int
theorem outI_push {E : Edges} {L S : List Int} {i : Nat} (h : i < L.length) : outI E L S (i + 1) = outI E L S i ++ [.int (coin E L S i)] := by
  have hb : i < (beh E L S).length := by rw [beh_len]; exact h
  have e : (beh E L S)[i]? = some (coin E L S i) := by
    rw [← beh_at (E := E) (S := S) h, List.getD_eq_getElem?_getD, List.getElem?_eq_getElem hb]
    rfl
  unfold outI
  rw [take_push e, List.map_append]
  rfl
theorem outI_len {E : Edges} {L S : List Int} {i : Nat} (h : L.length ≤ 1000) : (outI E L S i).length ≤ 1000 := by
  unfold outI
  rw [List.length_map, List.length_take, beh_len]
  omega
theorem sc__law_behind : FnScope ["_law_near_here", "_law_laying_here", "_law_state", "_law_found", "_law_k", "_law_turns", "_law_x"] ["_law_near_here", "_law_laying_here", "_law_state"] (defScope (topS 37)) := ⟨rfl, rfl, rfl, by decide +kernel, rfl, by decide +kernel, by decide +kernel⟩
theorem ok_lbeh (B : Blt mg) (F : FnP K "_law_behind" 37 f fd) : FnOk P w K mg base CX0 1 f fd ["_law_near_here", "_law_laying_here", "_law_state"] spLBeh := by
  refine F.ok sc__law_behind (fun vs H Q E h => ?_) (fun cdv A outer s H vs Q E hr h => ?_)
  · obtain ⟨nr, l, s, E, L, S, rfl, _⟩ := h
    rfl
  obtain ⟨nr, l, s, Ed, L, S, rfl, N, hl, hs, el, n6, q⟩ := h
  refine ⟨_, PSs.nox (pss_cons (ps_set (i := 3) sc__law_behind.nd rfl (.inl rfl) (pe_lst pa_nil))
    (pss_cons (ps_for PassesOwn.never rfl (pi_range1 rfl B.range (pa_cons (pe_callB call_len_seq (by rfl) B.len boot_len (pa_cons (pv 1) pa_nil)) pa_nil)) (pg_name (i := 4) sc__law_behind.nd rfl (.inl rfl))
      (pss_cons (ps_set (i := 5) sc__law_behind.nd rfl (.inl rfl) (pe_callB call_len_seq (by rfl) B.len boot_len (pa_cons (pe_lc (own := [("_law_x", 6)]) (g := gName 6) (by rfl) sc__law_behind.nd (pi_list (pe_ix ix_list (pv 0) (pv 4) (fun _ _ => rfl))) (blkOk_by (own := [("_law_x", 6)]) (N := ["_law_near_here", "_law_laying_here", "_law_state", "_law_found", "_law_k", "_law_turns", "_law_x"]) (sc := defScope (topS 37)) (by decide +kernel)) (fun _ _ _ _ _ => (pg_name (i := 6) sc__law_behind.nd rfl (by first | exact .inl rfl | exact .inr rfl))) (fun _ _ _ _ _ => (pts_one (pt_cmpR (r := rIn K false) op_in_seq (pv 6) (pv 2) (by rfl)))) (fun _ _ _ _ _ => (pv 6))) pa_nil)))
      (pss_one (ps_expr (pe_bm PySem.F.plainAttrs_list PySem.F.slot_list_append PySem.F.type_list_append mt_append (pv 3) (pa_cons (pe_ifExp (pt_cmpR op_in_seq (pv 4) (pv 2) (by rfl)) pe_int (pe_op op_mod (pe_callTy call_int1 (by rfl) B.int boot_int (pa_cons (pe_op op_add (pe_ix ix_tup (pv 1) (pv 4) (fun _ _ => rfl)) (pv 5)) pa_nil)) pe_int)) pa_nil))))))
    (pss_one (ps_ret (pe_callTy call_tuple_of (by rfl) B.tup boot_tuple (pa_cons (pv 3) pa_nil)))))), ?_⟩
  refine ⟨small (Nat.zero_le _), fun p hp => ?_⟩
  refine ⟨_, rfl, l, _, rfl, .inr (SqT.of (same_upd hp _ _ hl)), L.length, by rw [List.length_map], by omega, by omega, ?_⟩
  refine for_it (walk_range (lo := 0) (n := ((L.length : Int)).toNat)) (fun i σ H' => (∃ y4 y5, σ = [some (.ref nr), some (.ref l), some (.ref s), some (.ref p), y4, y5, none]) ∧ LcP H p (outI Ed L S) i H') ⟨⟨none, none, rfl⟩, LcP.start hp rfl⟩ (fun _ _ _ _ _ => trivial) ?_ ?_
  · rintro i x σ H1 H2 hi ⟨⟨y4, y5, rfl⟩, lp⟩ ⟨rfl, rfl⟩
    have hi : i < L.length := by omega
    have e0 : (0 : Int) + (i : Nat) = (i : Nat) := by omega
    obtain ⟨rs, r, g1, g2, g3⟩ := (N.same lp.1).get (k := 0 + (i : Nat)) (by omega) (by omega)
    refine ⟨_, rfl, _, rfl, nr, rs, _, .ref r, rfl, rfl, SqL.of g1, g2, r, rfl, ⟨_, SqL.of g3⟩, fun D hD => ?_⟩
    refine lc_it (walk_list (xs := (nb Ed (0 + (i : Nat))).map V.int)) (LcP H2 D (outF (fun x : Int => decide (x ∈ S)) V.int (nb Ed (0 + (i : Nat))))) (LcP.start hD outF_zero) (fun j H1 _ p => SqL.of (p.1 _ _ g3)) ?_ ?_
    · rintro j x H4 H5 hj p4 ⟨rfl, ex⟩
      rw [List.length_map] at hj
      rw [List.getElem?_map, List.getElem?_eq_getElem hj] at ex
      cases ex
      have ee : (nb Ed (0 + (i : Nat)))[j]? = some (nb Ed (0 + (i : Nat)))[j] := List.getElem?_eq_getElem hj
      refine ⟨rfl, _, rfl, _, rfl, s, _, rfl, .inr (SqT.of (p4.1 _ _ (lp.1 _ _ hs))), rfl, flat_ints S, _, rfl, ?_⟩
      rw [inV_int]
      have el2 : (nb Ed (0 + (i : Nat))).length ≤ 1000 := by
        unfold nb
        rw [List.length_map]
        exact Nat.le_trans (List.length_filter_le _ _) el
      refine ite2 (fun c => ?_) (fun c => ?_)
      · exact ⟨_, rfl, LcP.put hD p4 (outF_len el2) (outF_yes ee c)⟩
      · exact LcP.skip p4 (outF_no ee (Bool.eq_false_iff.mpr c))
    · rintro H4 p4
      have pd := p4.2
      rw [List.length_map, outF_all] at pd
      refine ⟨D, _, rfl, .inl (SqL.of pd), ?_⟩
      have lp2 := lp.tmp p4.1
      have cn : ((((nb Ed (0 + (i : Nat))).filter fun x => decide (x ∈ S)).map V.int).length : Int) = (cnt Ed S (i : Nat) : Nat) := by
        rw [List.length_map, ← List.countP_eq_length_filter, e0]
        rfl
      refine ⟨_, rfl, .inl ⟨rfl, _, SqL.of lp2.2⟩, _, rfl, _, rfl, s, _, rfl, .inr (SqT.of (lp2.1 _ _ hs)), rfl, flat_ints S, _, rfl, ?_⟩
      rw [inV_int]
      have ln : (outI Ed L S i).length ≤ 1000 := outI_len (Nat.le_trans n6 (by decide))
      obtain ⟨acc, h1, h2, h3⟩ := lp2.put hp ln (outI_push hi)
      refine ite2 (fun c => ?_) (fun c => ?_)
      · have e : coin Ed L S i = 2 := by
          unfold coin
          rw [if_pos (by rw [← e0]; exact of_decide_eq_true c)]
        rw [e] at h3
        exact ⟨p, acc, _, rfl, rfl, h1, h2, ⟨_, _, rfl⟩, h3⟩
      · have e : coin Ed L S i = (L[i] + (cnt Ed S (i : Nat) : Nat)) % 2 := by
          unfold coin
          rw [if_neg (fun z => c (decide_eq_true (by rw [e0]; exact z)))]
          have eg : L.getD i 0 = L[i] := by simp [hi]
          rw [eg]
        rw [e, ← cn] at h3
        refine ⟨_, rfl, _, rfl, l, _, _, .int L[i], rfl, rfl, SqT.of (lp2.1 _ _ hl), by rw [e0]; exact atI_nat (by rw [List.getElem?_map, List.getElem?_eq_getElem hi]; rfl), _, rfl, _, _, rfl, rfl, .inl ⟨_, rfl, _, _, rfl, rfl, (show (0 : Int) < 2 by decide), p, acc, _, rfl, rfl, h1, h2, ⟨_, _, rfl⟩, h3⟩⟩
  · rintro σ H1 ⟨⟨y4, y5, rfl⟩, lp⟩
    have pd := lp.2
    rw [Int.toNat_natCast] at pd
    have e : outI Ed L S L.length = (beh Ed L S).map V.int := by
      unfold outI
      rw [← beh_len Ed L S, List.take_length]
    rw [e] at pd
    exact ⟨_, rfl, p, _, rfl, .inl ⟨SqL.of pd, fun t ht => q _ t (lp.1.trans (same_upd ht)) upd_same⟩⟩
end
end Ck

namespace Ck
open PySem PySem.Spec PyProof.Rows L2
def C01 (L : List Int) : Prop := ∀ x ∈ L, x = 0 ∨ x = 1
theorem C01.set {L : List Int} (h : C01 L) (j : Nat) {v : Int} (hv : v = 0 ∨ v = 1) : C01 (L.set j v) := fun x hx => by
  rcases List.mem_or_eq_of_mem_set hx with q | q
  · exact h x q
  · rw [q]; exact hv
theorem C01.getD {L : List Int} (h : C01 L) (j : Nat) : L.getD j 0 = 0 ∨ L.getD j 0 = 1 := by
  rw [List.getD_eq_getElem?_getD]
  cases e : L[j]? with
  | none => exact .inl rfl
  | some x => exact h x (List.mem_of_getElem? e)
theorem cut_flat {xs : List V} (h : xs.all flatV = true) (lo hi : Option Int) : (cutV xs lo hi).all flatV = true := by
  rw [List.all_eq_true] at h ⊢
  intro x hx
  unfold cutV at hx
  exact h x (List.mem_of_mem_drop (List.mem_of_mem_take hx))
theorem NearR.at_ {H : Hp} {nr : Addr} {rs : List Addr} {n : Nat} {E : Edges} {k : Int} (x : NearR H nr rs n E) (k0 : 0 ≤ k) (kn : k < n) : ∃ r ∈ rs, atI (rs.map V.ref) k = some (V.ref r) ∧ LstI H r (nb E k) := by
  obtain ⟨j, rfl⟩ : ∃ j : Nat, k = (j : Int) := ⟨k.toNat, by omega⟩
  have hl := x.len
  have hj : j < rs.length := by omega
  refine ⟨rs[j], List.getElem_mem hj, atI_nat ?_, x.get j _ (List.getElem?_eq_getElem hj)⟩
  rw [List.getElem?_map, List.getElem?_eq_getElem hj]
  rfl
theorem rep0 : ∀ n : Nat, (List.replicate n [V.int 0]).flatten = (List.replicate n 0).map V.int
  | 0 => rfl
  | n + 1 => by
    rw [List.replicate_succ, List.flatten_cons, rep0 n, List.replicate_succ]
    rfl
structure Ly (H0 H : Hp) (nr fo : Addr) (rs : List Addr) (n : Nat) (E : Edges) : Prop where
  same : Same H0 H
  near : NearR H nr rs n E
  f0 : H0 fo = none
  n1 : nr ≠ fo
  n2 : ∀ r ∈ rs, r ≠ fo
  out : ∃ C : List Int, H fo = some (.lst (C.map V.int)) ∧ C.length = n ∧ C01 C
theorem Ly.keep {H0 H H' : Hp} {nr fo : Addr} {rs : List Addr} {n : Nat} {E : Edges} (x : Ly H0 H nr fo rs n E) (s : Same H H') : Ly H0 H' nr fo rs n E := by
  obtain ⟨C, h1, h2, h3⟩ := x.out
  exact ⟨x.same.trans s, x.near.same s, x.f0, x.n1, x.n2, C, s _ _ h1, h2, h3⟩
theorem Ly.put {H0 H : Hp} {nr fo : Addr} {rs : List Addr} {n : Nat} {E : Edges} {C : List Int} (x : Ly H0 H nr fo rs n E) (hl : C.length = n) (h3 : C01 C) : Ly H0 (upd H fo (.lst (C.map V.int))) nr fo rs n E :=
  ⟨SameB.of_new x.same x.f0 sameB_upd, x.near.sb x.n1 x.n2 sameB_upd, x.f0, x.n1, x.n2, C, upd_same, hl, h3⟩
section
variable {P : Program} {w : World} {K : PySem.W.Frag} {mg : Str → Option Value} {base : Heap} {f : Addr} {fd : FuncData}
abbrev CNear (P : Program) (w : World) (K : PySem.W.Frag) (mg : Str → Option Value) (base : Heap) : Prop := Cal P w K mg base 1 "_law_near" ["_law_web_here"] spNear
def spLaying : Sp := fun vs H Q _ => ∃ (a od : Addr) (n : Nat) (E : Edges) (ns : List Int), vs = [.ref a, .ref od] ∧ WebAt H a n E ∧ WebOk n E ∧ n ≤ 6 ∧ E.length ≤ 1000 ∧ TupI H od ns ∧ ns.Perm (rngI n) ∧
  ∀ H' p L, Same H H' → TupI H' p L → L.length = n → C01 L → Q (.ref p) H'
theorem sc__law_laying : FnScope ["_law_web_here", "_law_order_here", "_law_found", "_law_near_here", "_law_k", "_law_place", "_law_behind_here", "_law_x"] ["_law_web_here", "_law_order_here"] (defScope (topS 31)) := ⟨rfl, rfl, rfl, by decide +kernel, rfl, by decide +kernel, by decide +kernel⟩
theorem ok_laying (B : Blt mg) (F : FnP K "_law_laying" 31 f fd) (C_law_near : CNear P w K mg base) : FnOk P w K mg base CX0 2 f fd ["_law_web_here", "_law_order_here"] spLaying := by
  refine F.ok sc__law_laying (fun vs H Q E h => ?_) (fun cdv A outer s H vs Q E hr h => ?_)
  · obtain ⟨a, od, n, E, ns, rfl, _⟩ := h
    rfl
  obtain ⟨a, od, n, Ed, ns, rfl, W, ok, n6, el, ho, pm, q⟩ := h
  obtain ⟨et, xs, ha, _, _⟩ := W.ex
  have nl : ns.length = n := by rw [pm.length_eq, rngI_len]
  refine ⟨_, PSs.nox (pss_cons (ps_set (i := 2) sc__law_laying.nd rfl (.inl rfl) (pe_op op_rep (pe_lst (pa_cons pe_int pa_nil)) (pe_ix ix_tup (pv 0) pe_int (fun _ _ => rfl))))
    (pss_cons (ps_set (i := 3) sc__law_laying.nd rfl (.inl rfl) (pe_cal C_law_near hr (pa_cons (pv 0) pa_nil)))
    (pss_cons (ps_for PassesOwn.never rfl (pi_range1 rfl B.range (pa_cons (pe_ix ix_tup (pv 0) pe_int (fun _ _ => rfl)) pa_nil)) (pg_name (i := 4) sc__law_laying.nd rfl (.inl rfl))
      (pss_cons (ps_set (i := 5) sc__law_laying.nd rfl (.inl rfl) (pe_ix ix_tup (pv 1) (pe_op op_sub (pe_op op_sub (pe_ix ix_tup (pv 0) pe_int (fun _ _ => rfl)) pe_int) (pv 4)) (fun _ _ => rfl)))
      (pss_cons (ps_set (i := 6) sc__law_laying.nd rfl (.inl rfl) (pe_slice sl_tup (pv 1) (po_some (pe_op op_sub (pe_ix ix_tup (pv 0) pe_int (fun _ _ => rfl)) (pv 4))) po_none))
      (pss_cons (ps_asg pe_int (pg_sub (pv 2) (pv 5) set_list))
      (pss_one (ps_for PassesOwn.never rfl (pi_list (pe_ix ix_list (pv 3) (pv 5) (fun _ _ => rfl))) (pg_name (i := 7) sc__law_laying.nd rfl (.inl rfl))
        (pss_one (ps_if (pt_cmpR op_in_seq (pv 7) (pv 6) (by rfl))
          (pss_one (ps_asg (pe_op op_sub pe_int (pe_ix ix_list (pv 2) (pv 7) (fun _ _ => rfl))) (pg_sub (pv 2) (pv 7) set_list)))
          pss_nil))))))))
    (pss_one (ps_ret (pe_callTy call_tuple_of (by rfl) B.tup boot_tuple (pa_cons (pv 2) pa_nil))))))), ?_⟩
  refine ⟨small (Nat.le_of_ble_eq_true rfl), fun z hz => ⟨_, rfl, a, _, 0, .int n, rfl, rfl, SqT.of (same_upd hz _ _ ha), rfl, z, n, _, rfl, rfl, upd_same, by omega, by omega, Nat.le_trans (show 1 * (n : Int).toNat ≤ 6 by omega) (by decide), fun fo hfo => ?_⟩⟩
  have e0 : (List.replicate (n : Int).toNat [V.int 0]).flatten = (List.replicate n 0).map V.int := by
    rw [Int.toNat_natCast, rep0]
  have s1 := same_upd (o := .lst [.int 0]) hz
  have s2 := same_upd (o := .lst (List.replicate (n : Int).toNat [V.int 0]).flatten) hfo
  have hfo' : upd (upd H z (.lst [.int 0])) fo (.lst (List.replicate (n : Int).toNat [V.int 0]).flatten) fo = some (.lst ((List.replicate n 0).map V.int)) := by
    rw [upd_same, e0]
  have f0 := none_of s1 hfo
  have s12 := s1.trans s2
  generalize upd (upd H z (.lst [.int 0])) fo (.lst (List.replicate (n : Int).toNat [V.int 0]).flatten) = H1 at hfo' s12
  refine ⟨_, rfl, a, n, Ed, rfl, W.same s12, n6, el, fun H2 nr rs s3 fn fr N => ?_⟩
  have L2 : Ly H H2 nr fo rs n Ed := ⟨s12.trans s3, N, f0, (ne_of_none hfo' fn).symm, fun r hr => (ne_of_none hfo' (fr r hr)).symm, _, s3 _ _ hfo', by simp, fun x hx => .inl (List.eq_of_mem_replicate hx)⟩
  refine ⟨_, rfl, a, _, 0, .int n, rfl, rfl, SqT.of (L2.same _ _ ha), rfl, n, rfl, by omega, by omega, ?_⟩
  refine for_it (walk_range (lo := 0) (n := (n : Int).toNat)) (fun i σ H' => (∃ y4 y5 y6 y7, σ = [some (.ref a), some (.ref od), some (.ref fo), some (.ref nr), y4, y5, y6, y7]) ∧ Ly H H' nr fo rs n Ed) ⟨⟨_, _, _, _, rfl⟩, L2⟩ (fun _ _ _ _ _ => trivial) ?_ ?_
  · rintro i x σ H3 H4 hi ⟨⟨y4, y5, y6, y7, rfl⟩, ly⟩ ⟨rfl, rfl⟩
    have hi : i < n := by omega
    have hp : n - 1 - i < ns.length := by omega
    have ep : ns[n - 1 - i]? = some ns[n - 1 - i] := List.getElem?_eq_getElem hp
    have pr := mem_rngI.mp (pm.mem_iff.mp (List.getElem_mem hp))
    generalize ns[n - 1 - i] = pl at ep pr
    refine ⟨_, rfl, _, rfl, a, _, 0, .int n, rfl, rfl, SqT.of (ly.same _ _ ha), rfl, _, _, rfl, rfl, _, rfl, _, _, rfl, rfl, od, _, _, .int pl, rfl, rfl, SqT.of (ly.same _ _ ho), ?_, ?_⟩
    · rw [show (n : Int) - 1 - (0 + (i : Nat)) = ((n - 1 - i : Nat) : Int) by omega]
      exact atI_nat (by rw [List.getElem?_map, ep]; rfl)
    refine ⟨_, rfl, _, rfl, a, _, 0, .int n, rfl, rfl, SqT.of (ly.same _ _ ha), rfl, _, rfl, _, _, rfl, rfl, _, rfl, od, _, rfl, SqT.of (ly.same _ _ ho), ?_, fun b hb => ?_⟩
    · rw [show (n : Int) - (0 + (i : Nat)) = ((n - i : Nat) : Int) by omega, HT.sIx_nat, List.length_map]
      rintro ⟨z1, _⟩
      omega
    have hbf : (cutV (ns.map V.int) (some ((n : Int) - (0 + (i : Nat)))) none).all flatV = true := cut_flat (flat_ints ns) _ _
    have hb' : upd H4 b (.tup (cutV (ns.map V.int) (some ((n : Int) - (0 + (i : Nat)))) none)) b = some (.tup (cutV (ns.map V.int) (some ((n : Int) - (0 + (i : Nat)))) none)) := upd_same
    have ly := ly.keep (same_upd (o := .tup (cutV (ns.map V.int) (some ((n : Int) - (0 + (i : Nat)))) none)) hb)
    generalize upd H4 b (.tup (cutV (ns.map V.int) (some ((n : Int) - (0 + (i : Nat)))) none)) = H5 at hb' ly
    generalize cutV (ns.map V.int) (some ((n : Int) - (0 + (i : Nat)))) none = bs at hb' hbf
    obtain ⟨C, c1, c2, c3⟩ := ly.out
    obtain ⟨a1, a2⟩ := at_int (B := C) pr.1 (by omega)
    refine ⟨_, rfl, _, rfl, fo, _, pl, _, rfl, rfl, c1, a2, ?_⟩
    rw [set_int]
    have hb2 := upd_tups (o := .lst ((C.set pl.toNat 1).map V.int)) c1 (fun ys z => nomatch z) _ _ hb'
    have ly2 := ly.put (C := C.set pl.toNat 1) (by rw [List.length_set]; exact c2) (c3.set _ (.inr rfl))
    generalize upd H5 fo (.lst ((C.set pl.toNat 1).map V.int)) = H6 at hb2 ly2
    obtain ⟨r, hr, g2, g3⟩ := ly2.near.at_ pr.1 pr.2
    refine ⟨_, rfl, _, rfl, nr, _, pl, .ref r, rfl, rfl, SqL.of ly2.near.h, g2, r, rfl, ⟨_, SqL.of g3⟩, ?_⟩
    refine for_it (walk_list (xs := (nb Ed pl).map V.int)) (fun j σ H' => (∃ y7, σ = [some (.ref a), some (.ref od), some (.ref fo), some (.ref nr), some (.int (0 + (i : Nat))), some (.int pl), some (.ref b), y7]) ∧ Ly H H' nr fo rs n Ed ∧ H' b = some (.tup bs) ∧ LstI H' r (nb Ed pl)) ⟨⟨_, rfl⟩, ly2, hb2, g3⟩ (fun j σ H' _ z => SqL.of z.2.2.2) ?_ ?_
    · rintro j x σ H7 H8 hj ⟨⟨y7, rfl⟩, ly, hb, g3⟩ ⟨rfl, ex⟩
      rw [List.getElem?_map] at ex
      cases ez : (nb Ed pl)[j]? with
      | none => rw [ez] at ex; cases ex
      | some x =>
        rw [ez] at ex
        cases ex
        have xr := nb_rng ok (List.mem_of_getElem? ez)
        refine ⟨_, rfl, _, rfl, b, bs, rfl, .inr (SqT.of hb), rfl, hbf, _, rfl, ite2 (fun _ => ?_) (fun _ => ⟨⟨_, rfl⟩, ly, hb, g3⟩)⟩
        obtain ⟨C, c1, c2, c3⟩ := ly.out
        obtain ⟨a1, a2⟩ := at_int (B := C) xr.1 (by omega)
        refine ⟨_, rfl, _, rfl, fo, _, x, _, rfl, rfl, SqL.of c1, a1, _, _, rfl, rfl, _, rfl, _, rfl, fo, _, x, _, rfl, rfl, c1, a2, ⟨_, rfl⟩, ?_⟩
        rw [set_int]
        have cv := c3.getD x.toNat
        refine ⟨ly.put (by rw [List.length_set]; exact c2) (c3.set _ (by omega)), upd_tups c1 (fun ys z => nomatch z) _ _ hb, ?_⟩
        show upd _ _ _ _ = _
        rw [upd_ne (ly.n2 r hr)]
        exact g3
    · rintro σ H7 ⟨⟨y7, rfl⟩, ly, hb, g3⟩
      exact ⟨⟨_, _, _, _, rfl⟩, ly⟩
  · rintro σ H3 ⟨⟨y4, y5, y6, y7, rfl⟩, ly⟩
    obtain ⟨C, c1, c2, c3⟩ := ly.out
    exact ⟨_, rfl, fo, _, rfl, .inl ⟨SqL.of c1, fun t ht => q _ t C (ly.same.trans (same_upd ht)) upd_same c2 c3⟩⟩
def spFull (K : PySem.W.Frag) : Sp := fun vs H Q _ => ∃ (ro sc : Addr) (ss : List Int) (a : Addr) (n : Nat) (E : Edges), vs = [.ref ro, .ref a] ∧ RowAt K H ro sc ss ∧ WebAt H a n E ∧ WebOk n E ∧ n ≤ 6 ∧ E.length ≤ 1000 ∧
  ∀ H' p L, SameB ro H H' → RowAt K H' ro sc ss → TupI H' p L → L.length = n → C01 L → Q (.ref p) H'
structure FuP (K : PySem.W.Frag) (ro sc : Addr) (ss : List Int) (D : Addr) (H1 : Hp) (i : Nat) (H : Hp) : Prop where
  same : SameB ro H1 H
  row : RowAt K H ro sc ss
  out : ∃ C : List Int, H D = some (.lst (C.map V.int)) ∧ C.length = i ∧ C01 C
theorem sc__law_full : FnScope ["_law_row", "_law_web_here", "_law_k"] ["_law_row", "_law_web_here"] (defScope (topS 32)) := ⟨rfl, rfl, rfl, by decide +kernel, rfl, by decide +kernel, by decide +kernel⟩
theorem ok_full (B : Blt mg) (F : FnP K "_law_full" 32 f fd) (C_law_taken : CTaken P w K mg base) (C_law_order : Cal P w K mg base 2 "_law_order" ["_law_row", "_law_many"] (spOrder K)) (C_law_laying : Cal P w K mg base 2 "_law_laying" ["_law_web_here", "_law_order_here"] spLaying) :
    FnOk P w K mg base CX0 3 f fd ["_law_row", "_law_web_here"] (spFull K) := by
  refine F.ok sc__law_full (fun vs H Q E h => ?_) (fun cdv A outer s H vs Q E hr h => ?_)
  · obtain ⟨ro, sc, ss, a, n, E, rfl, _⟩ := h
    rfl
  obtain ⟨ro, sc, ss, a, n, Ed, rfl, R, W, ok, n6, el, q⟩ := h
  refine ⟨_, PSs.nox (pss_cons (ps_if (pt_cmpR op_eq (pe_cal C_law_taken hr (pa_cons (pv 0) (pa_cons pe_int pa_nil))) pe_int (nomark _))
      (pss_one (ps_ret (pe_callTy call_tuple_of (by rfl) B.tup boot_tuple (pa_cons (pe_lc (own := [("_law_k", 2)]) (g := gName 2) (by rfl) sc__law_full.nd (pi_range1 rfl B.range (pa_cons (pe_ix ix_tup (pv 1) pe_int (fun _ _ => rfl)) pa_nil)) (blkOk_by (own := [("_law_k", 2)]) (N := ["_law_row", "_law_web_here", "_law_k"]) (sc := defScope (topS 32)) (by decide +kernel)) (fun _ _ _ _ _ => (pg_name (i := 2) sc__law_full.nd rfl (by first | exact .inl rfl | exact .inr rfl))) (fun _ _ _ _ _ => pts_nil) (fun _ _ _ _ _ => (pe_cal C_law_taken hr (pa_cons (pv 0) (pa_cons pe_int pa_nil))))) pa_nil))))
      pss_nil)
    (pss_one (ps_ret (pe_cal C_law_laying hr (pa_cons (pv 1) (pa_cons (pe_callTy call_tuple_of (by rfl) B.tup boot_tuple (pa_cons (pe_cal C_law_order hr (pa_cons (pv 0) (pa_cons (pe_ix ix_tup (pv 1) pe_int (fun _ _ => rfl)) pa_nil))) pa_nil)) pa_nil)))))), ?_⟩
  refine ⟨_, rfl, ro, sc, ss, 3, rfl, by decide, by decide, R, fun H1 v sb R1 v0 v1 => ?_⟩
  have W1 := W.keep (R.tups sb)
  obtain ⟨et, xs, ha, _, _⟩ := W1.ex
  refine ⟨rfl, _, rfl, ite2 (fun _ => ?_) (fun _ => ?_)⟩
  · refine ⟨_, rfl, a, _, 0, .int n, rfl, rfl, SqT.of ha, rfl, n, rfl, by omega, by omega, fun D hD => ?_⟩
    refine lc_it (walk_range (lo := 0) (n := (n : Int).toNat)) (FuP K ro sc ss D H1) ⟨Same.b (same_upd hD), R1.same (same_upd hD), [], upd_same, rfl, fun x h => by cases h⟩ (fun _ _ _ _ => trivial) ?_ ?_
    · rintro i x H2 H3 hi p ⟨rfl, rfl⟩
      refine ⟨rfl, ?_⟩
      unfold tYes
      refine iteT ?_
      refine ⟨_, rfl, ro, sc, ss, 2, rfl, by decide, by decide, p.row, fun H4 v sb4 R4 v0 v1 => ?_⟩
      obtain ⟨C, c1, c2, c3⟩ := p.out
      have nD := R1.nw hD
      refine ⟨_, sb4 _ _ nD c1, small1000 (by rw [List.length_map]; omega), (p.same.trans sb4).out hD, R4.out R1 (p.same.trans sb4) hD, C ++ [v], by rw [upd_same, List.map_append]; rfl, by simp [c2], fun x hx => ?_⟩
      rcases List.mem_append.mp hx with z | z
      · exact c3 x z
      · rw [List.mem_singleton.mp z]
        omega
    · rintro H2 p
      obtain ⟨C, c1, c2, c3⟩ := p.out
      refine ⟨D, _, rfl, .inl ⟨SqL.of c1, fun t ht => q _ t C ((sb.trans p.same).trans (Same.b (same_upd ht))) (p.row.same (same_upd ht)) upd_same (by omega) c3⟩⟩
  · refine ⟨_, rfl, _, rfl, _, rfl, a, _, 0, .int n, rfl, rfl, SqT.of ha, rfl, ro, sc, ss, n, rfl, n6, R1, fun H2 p ns sb2 R2 fp hp pm => ?_⟩
    refine ⟨p, _, rfl, .inl ⟨SqL.of hp, fun t ht => ?_⟩⟩
    have W2 := (W1.keep (R1.tups sb2)).same (same_upd (o := .tup (ns.map V.int)) ht)
    exact ⟨a, t, n, Ed, ns, rfl, W2, ok, n6, el, upd_same, pm, fun H3 p3 L s3 h3 l3 c3 => q H3 p3 L ((sb.trans sb2).trans ((Same.b (same_upd ht)).trans (Same.b s3))) ((R2.same (same_upd ht)).same s3) h3 l3 c3⟩
end
end Ck

namespace Ck
open PySem PySem.Spec PyProof.Rows L2
theorem NearAt.oth {H H' : Hp} {nr c : Addr} {o : HO} {n : Nat} {E : Edges} (x : NearAt H nr n E) (h : H c = some o) (no : ∀ xs, o ≠ .lst xs) (s : SameB c H H') : NearAt H' nr n E := by
  obtain ⟨rs, h1, h2, h3⟩ := x
  exact ⟨rs, s _ _ (ne_obj h1 h (no _).symm) h1, h2, fun k r e => s _ _ (ne_obj (h3 k r e) h (no _).symm) (h3 k r e)⟩
section
variable {P : Program} {w : World} {E : Edges} {L : List Int}
structure MemoL (P : Program) (w : World) (E : Edges) (L : List Int) (H : Hp) (kn : Addr) (xs : List NEnt) : Prop where
  nd : ND P w H kn xs
  fit : ∀ e ∈ xs, ∃ S v, e.1.1 = beh E L S ∧ Good L.length S ∧ e.2.2 = .int v ∧ Fit E L S e.1.2 v
def MemL (P : Program) (w : World) (E : Edges) (L : List Int) (H : Hp) (kn : Addr) : Prop := ∃ xs, MemoL P w E L H kn xs
theorem MemoL.h {H : Hp} {kn : Addr} {xs : List NEnt} (m : MemoL P w E L H kn xs) : H kn = some (NDo P w kn xs) := m.nd.1
theorem MemoL.len {H : Hp} {kn : Addr} {xs : List NEnt} (m : MemoL P w E L H kn xs) (h6 : L.length ≤ 6) : xs.length < sizeLine := by
  have q := pairs_le h6 (l := xs.map fun e => (stOf e.1.1, e.1.2)) (by
    refine List.pairwise_map.mpr ((List.pairwise_map.mp m.nd.2.2.1).imp_of_mem fun {a b} ha hb ne e => ne ?_)
    obtain ⟨S, v, e1, g1, _⟩ := m.fit a ha
    obtain ⟨T, u, e2, g2, _⟩ := m.fit b hb
    rw [e1, e2, stOf_beh g1, stOf_beh g2] at e
    obtain ⟨z1, z2⟩ := Prod.mk.inj e
    exact Prod.ext (by rw [e1, e2, z1]) z2) fun p hp => by
      obtain ⟨e, he, rfl⟩ := List.mem_map.mp hp
      obtain ⟨S, v, e1, g1, _⟩ := m.fit e he
      rw [e1, stOf_beh g1]
      exact g1
  rw [List.length_map] at q
  exact small1000 (by omega)
theorem MemL.new {H : Hp} {p : Addr} : MemL P w E L (upd H p (NDo P w p [])) p := ⟨[], ND.new, fun e he => by cases he⟩
theorem MemoL.same {H H' : Hp} {kn : Addr} {xs : List NEnt} (m : MemoL P w E L H kn xs) (s : Same H H') : MemoL P w E L H' kn xs := ⟨ND.stay m.nd s, m.fit⟩
theorem MemL.same {H H' : Hp} {kn : Addr} (m : MemL P w E L H kn) (s : Same H H') : MemL P w E L H' kn := by
  obtain ⟨xs, m⟩ := m
  exact ⟨xs, m.same s⟩
theorem MemoL.put {H : Hp} {kn p : Addr} {xs : List NEnt} {S : List Int} {b : Bool} {v : Int} (m : MemoL P w E L H kn xs) (h6 : L.length ≤ 6) (hk : NKAt H (beh E L S, b) p) (g : Good L.length S) (f : Fit E L S b v) :
    MemoL P w E L (upd H kn (NDo P w kn (nput xs (beh E L S, b) p (.int v)))) kn (nput xs (beh E L S, b) p (.int v)) := by
  refine ⟨m.nd.put hk (m.len h6), fun e he => ?_⟩
  rcases nput_mem he with q | ⟨q1, q2, _⟩
  · exact m.fit e q
  · rw [q1, q2]
    exact ⟨S, v, rfl, g, rfl, f⟩
theorem MemL.tups {H H' : Hp} {kn : Addr} (m : MemL P w E L H kn) (s : SameB kn H H') : ∀ b ys, H b = some (.tup ys) → H' b = some (.tup ys) := by
  obtain ⟨xs, m⟩ := m
  exact s.tup m.h fun ys z => nomatch z
theorem MemL.near {H H' : Hp} {kn nr : Addr} {n : Nat} (m : MemL P w E L H kn) (s : SameB kn H H') (x : NearAt H nr n E) : NearAt H' nr n E := by
  obtain ⟨xs, m⟩ := m
  exact x.oth m.h (fun ys z => nomatch z) s
theorem MemL.keep {H H' : Hp} {kn : Addr} (m : MemL P w E L H kn) (e : ∀ o, H kn = some o → H' kn = some o) (t : ∀ b ys, H b = some (.tup ys) → H' b = some (.tup ys)) : MemL P w E L H' kn := by
  obtain ⟨xs, m⟩ := m
  exact ⟨xs, ⟨e _ m.nd.1, m.nd.2.1, m.nd.2.2.1, fun x hx => (m.nd.2.2.2 x hx).keep t⟩, m.fit⟩
theorem MemL.ne {H : Hp} {kn D : Addr} (m : MemL P w E L H kn) (h : H D = none) : D ≠ kn := by
  obtain ⟨xs, m⟩ := m
  exact (ne_of_none m.h h).symm
theorem MemL.neL {H : Hp} {kn D : Addr} {xs : List V} (m : MemL P w E L H kn) (h : H D = some (.lst xs)) : D ≠ kn := by
  obtain ⟨ys, m⟩ := m
  exact ne_obj h m.h (fun z => nomatch z)
theorem MemL.lst {H : Hp} {kn D : Addr} {xs : List V} {o : HO} (m : MemL P w E L H kn) (h : H D = some (.lst xs)) : MemL P w E L (upd H D o) kn := by
  have n := m.neL h
  exact m.keep (fun o q => by rw [upd_ne n.symm]; exact q) (upd_tups h (fun ys z => nomatch z))
end
section
variable {P : Program} {w : World} {K : PySem.W.Frag} {mg : Str → Option Value} {base : Heap} {f : Addr} {fd : FuncData}
def spLL (P : Program) (w : World) (m : Nat) : Sp := fun vs H Q _ => ∃ (nr l kn : Addr) (E : Edges) (L S : List Int) (b : Bool), vs = [.ref nr, .ref l, .bl b, .ref kn] ∧ NearAt H nr L.length E ∧ TupI H l (beh E L S) ∧ WebOk L.length E ∧ L.length ≤ 6 ∧ Good L.length S ∧
  L.length - S.length < m ∧ MemL P w E L H kn ∧ ∀ H' v, SameB kn H H' → MemL P w E L H' kn → Fit E L S b v → Q (.int v) H'
structure LlP (P : Program) (w : World) (E : Edges) (L S : List Int) (b : Bool) (kn D : Addr) (H1 : Hp) (i : Nat) (H : Hp) : Prop where
  same : SameB kn H1 H
  mem : MemL P w E L H kn
  out : ∃ ns : List Int, H D = some (.lst (ns.map V.int)) ∧ ns.length = i ∧ ∀ j k, j < i → (rdy E L S)[j]? = some k → ∃ v, ns[j]? = some v ∧ Fit E L (more S k) (!b) v
theorem sc__law_left : FnScope ["_law_near_here", "_law_laying_here", "_law_is_mine", "_law_known", "_law_key", "_law_told", "_law_left_here", "_law_k", "_law_one"] ["_law_near_here", "_law_laying_here", "_law_is_mine", "_law_known"] (defScope (topS 35)) := ⟨rfl, rfl, rfl, by decide +kernel, rfl, by decide +kernel, by decide +kernel⟩
theorem ok_ll_step (B : Blt mg) (F : FnP K "_law_left" 35 f fd) (m : Nat) (C_law_heads : Cal P w K mg base 1 "_law_heads" ["_law_laying_here"] spLHeads) (C_law_take : Cal P w K mg base 1 "_law_take" ["_law_near_here", "_law_laying_here", "_law_place"] spTake)
    (C_law_left : Cal P w K mg base (1 + m) "_law_left" ["_law_near_here", "_law_laying_here", "_law_is_mine", "_law_known"] (spLL P w m)) : FnOk P w K mg base CX0 (2 + m) f fd ["_law_near_here", "_law_laying_here", "_law_is_mine", "_law_known"] (spLL P w (m + 1)) := by
  rw [show 2 + m = (1 + m) + 1 by omega]
  refine F.ok sc__law_left (fun vs H Q E h => ?_) (fun cdv A outer s H vs Q E hr h => ?_)
  · obtain ⟨nr, l, kn, E, L, S, b, rfl, _⟩ := h
    rfl
  have hk1 : 1 ≤ 1 + m := by omega
  obtain ⟨nr, l, kn, Ed, L, S, b, rfl, N, hl, ok, n6, g, lt, mem, q⟩ := h
  have bl := beh_len Ed L S
  refine ⟨_, PSs.nox (pss_cons (ps_set (i := 4) sc__law_left.nd rfl (.inl rfl) (pe_tup (pa_cons (pv 1) (pa_cons (pv 2) pa_nil))))
    (pss_cons (ps_if (pt_cmp (pc_nnotin hr.units (pv 4) (pv 3)))
      (pss_cons (ps_setLc (i := 5) (own := [("_law_k", 7)]) (g := gName 7) (by rfl) sc__law_left.nd rfl rfl (sw_true rfl rfl rfl (by decide +kernel)) (pi_list (pe_cal C_law_heads hr (pa_cons (pv 1) pa_nil) hk1)) (blkOk_by (own := [("_law_k", 7)]) (N := ["_law_near_here", "_law_laying_here", "_law_is_mine", "_law_known", "_law_key", "_law_told", "_law_left_here", "_law_k", "_law_one"]) (sc := defScope (topS 35)) (by decide +kernel)) (fun _ _ _ _ _ => (pg_name (i := 7) sc__law_left.nd rfl (by first | exact .inl rfl | exact .inr rfl))) (fun _ _ _ _ _ => pts_nil) (fun _ _ _ _ _ => (pe_cal C_law_left hr (pa_cons (pv 0) (pa_cons (pe_cal C_law_take hr (pa_cons (pv 0) (pa_cons (pv 1) (pa_cons (pv 7) pa_nil))) hk1) (pa_cons (pe_not (pv 2)) (pa_cons (pv 3) pa_nil)))) (Nat.le_refl _))))
      (pss_cons (ps_set (i := 6) sc__law_left.nd rfl (.inl rfl) (pe_callB call_len_seq (by rfl) B.len boot_len (pa_cons (pe_lc (own := [("_law_one", 8)]) (g := gName 8) (by rfl) sc__law_left.nd (pi_tup (pv 1)) (blkOk_by (own := [("_law_one", 8)]) (N := ["_law_near_here", "_law_laying_here", "_law_is_mine", "_law_known", "_law_key", "_law_told", "_law_left_here", "_law_k", "_law_one"]) (sc := defScope (topS 35)) (by decide +kernel)) (fun _ _ _ _ _ => (pg_name (i := 8) sc__law_left.nd rfl (by first | exact .inl rfl | exact .inr rfl))) (fun _ _ _ _ _ => (pts_one (pt_cmpR op_ne (pv 8) pe_int (nomark _)))) (fun _ _ _ _ _ => (pv 8))) pa_nil)))
      (pss_one (ps_nput hr.units (pv 3) (pv 4) (pe_ifExp (pt_cmpR (op_eqD hr.units) (pv 5) (pe_lst pa_nil) (nomark _)) (pv 6) (pe_ifExp (pt_val (pv 2)) (pe_callB (cr_min rfl) (by rfl) B.min boot_min (pa_cons (pv 5) pa_nil)) (pe_callB (cr_max rfl) (by rfl) B.max boot_max (pa_cons (pv 5) pa_nil)))) rfl))))
      pss_nil)
    (pss_one (ps_ret (pe_nget hr.units (pv 3) (pv 4) (fun _ _ => rfl)))))), ?_⟩
  refine ⟨_, rfl, _, rfl, small (Nat.le_of_ble_eq_true rfl), fun p hp => ?_⟩
  have s1 := same_upd (o := .tup [.ref l, .bl b]) hp
  have hnk : NKAt (upd H p (.tup [.ref l, .bl b])) (beh Ed L S, b) p := ⟨l, upd_same, s1 _ _ hl⟩
  obtain ⟨xs, mm⟩ := mem.same s1
  refine ⟨_, rfl, _, rfl, kn, p, (beh Ed L S, b), xs, rfl, rfl, mm.nd, hnk, _, rfl, ite2 (fun c => ?_) (fun c => ?_)⟩
  · refine ⟨_, rfl, l, _, rfl, s1 _ _ hl, by omega, fun H2 r s2 hr2 => ?_⟩
    have s12 := Same.trans s1 s2
    have M2 : MemL P w Ed L H2 kn := MemL.same ⟨xs, mm⟩ s2
    refine ⟨r, rfl, ⟨_, SqL.of hr2⟩, fun D hD => ?_⟩
    have hDk := M2.ne hD
    have hlk : TupI H2 l (beh Ed L S) := s12 _ _ hl
    have N2 := N.same s12
    refine lc_it (walk_list (xs := (rdy Ed L S).map V.int)) (LlP P w Ed L S b kn D H2) ⟨Same.b (same_upd hD), M2.same (same_upd hD), [], upd_same, rfl, fun j k hj => absurd hj (Nat.not_lt_zero _)⟩ (fun i H3 _ p => SqL.of (p.same _ _ (M2.neL hr2) hr2)) ?_ ?_
    · rintro i x H3 H4 hi lp ⟨rfl, ex⟩
      rw [List.length_map] at hi
      rw [List.getElem?_map, List.getElem?_eq_getElem hi] at ex
      cases ex
      have ek : (rdy Ed L S)[i]? = some (rdy Ed L S)[i] := List.getElem?_eq_getElem hi
      generalize (rdy Ed L S)[i] = k at ek
      have kin := List.mem_of_getElem? ek
      have rl := rdy_le Ed L S
      have slt : S.length < L.length := rdy_lt g (fun z => by rw [z] at kin; cases kin)
      have t3 := M2.tups lp.same
      have kr := mem_rdy kin
      refine ⟨rfl, ?_⟩
      unfold tYes
      refine iteT ?_
      refine ⟨_, rfl, _, rfl, _, rfl, _, rfl, nr, l, Ed, beh Ed L S, k, rfl, by rw [bl]; exact M2.near lp.same N2, t3 _ _ hlk, by rw [bl]; exact ok, kr.2.1, by rw [bl]; exact kr.2.2, fun H5 p5 s5 hp5 => ?_⟩
      rw [take_beh ok kr.1 kr.2.1 kr.2.2] at hp5
      refine ⟨_, rfl, _, rfl, _, rfl, nr, p5, kn, Ed, L, more S k, !b, rfl, (M2.near lp.same N2).same s5, hp5, ok, n6, rdy_good g kin, by rw [more_len]; omega, lp.mem.same s5, fun H6 v sb m6 fv => ?_⟩
      obtain ⟨ns, h1, h2, h3⟩ := lp.out
      have h6 : H6 D = some (.lst (ns.map V.int)) := sb _ _ hDk (s5 _ _ h1)
      refine ⟨_, h6, small1000 (by rw [List.length_map, h2]; omega), ?_, m6.lst h6, ns ++ [v], ?_, by simp [h2], fun j k' hj ek' => ?_⟩
      · intro b' o hb e
        rw [upd_ne (ne_of_none e hD)]
        exact sb _ _ hb (s5 _ _ (lp.same _ _ hb e))
      · rw [upd_same, List.map_append]
        rfl
      · by_cases z : j < i
        · obtain ⟨v', e1, e2⟩ := h3 j k' z ek'
          exact ⟨v', by rw [List.getElem?_append_left (by omega)]; exact e1, e2⟩
        · have : j = i := by omega
          subst this
          rw [ek] at ek'
          cases ek'
          exact ⟨v, by rw [List.getElem?_append_right (by omega), h2]; simp, fv⟩
    · rintro H3 lp
      obtain ⟨ns, h1, h2, h3⟩ := lp.out
      rw [List.length_map] at h2 h3
      have told : Told Ed L S b ns := ⟨h2, fun i k e => h3 i k (List.getElem?_eq_some_iff.mp e).1 e⟩
      have sb3 : SameB kn H H3 := (Same.b s12).trans lp.same
      have hl3 : TupI H3 l (beh Ed L S) := M2.tups lp.same _ _ hlk
      refine ⟨_, rfl, l, rfl, ⟨_, SqT.of hl3⟩, fun D2 hD2 => ?_⟩
      refine lc_it (walk_tup (xs := (beh Ed L S).map V.int)) (LcP H3 D2 (outF (fun x : Int => decide (x ≠ 2)) V.int (beh Ed L S))) (LcP.start hD2 outF_zero) (fun j H1 _ p => SqT.of (p.1 _ _ hl3)) ?_ ?_
      · rintro j x H4 H5 hj p4 ⟨rfl, ex⟩
        rw [List.length_map] at hj
        rw [List.getElem?_map, List.getElem?_eq_getElem hj] at ex
        cases ex
        have ee : (beh Ed L S)[j]? = some (beh Ed L S)[j] := List.getElem?_eq_getElem hj
        generalize (beh Ed L S)[j] = y at ee
        refine ⟨rfl, _, rfl, rfl, _, rfl, ?_⟩
        have el : (beh Ed L S).length ≤ 1000 := by omega
        refine ite2 (fun c => ?_) (fun c => ?_)
        · exact ⟨_, rfl, LcP.put hD2 p4 (outF_len el) (outF_yes ee (by simpa using c))⟩
        · exact LcP.skip p4 (outF_no ee (by simpa using c))
      rintro H4 p4
      have pd := p4.2
      rw [List.length_map, outF_all] at pd
      refine ⟨D2, _, rfl, .inl (SqL.of pd), ?_⟩
      have lf : ((((beh Ed L S).filter fun x : Int => decide (x ≠ 2)).map V.int).length : Int) = (L.length : Int) - S.length := by
        rw [List.length_map, ← List.countP_eq_length_filter]
        exact leftOf_beh g
      have sb4 := sb3.trans (Same.b p4.1)
      have h14 := p4.1 _ _ h1
      refine ⟨_, rfl, small (Nat.zero_le _), fun Z hZ => ⟨_, _, dp_ints (SqL.of (same_upd hZ _ _ h14)), dp_nil (SqL.of upd_same), (sh_ints _).of, (sh_ints []).of, _, rfl, ?_⟩⟩
      have sz := same_upd (o := .lst []) hZ
      have t3 := fun b ys (e : H2 b = some (.tup ys)) => sz _ _ (p4.1 _ _ (M2.tups lp.same b ys e))
      have hnk4 : NKAt (upd H4 Z (.lst [])) (beh Ed L S, b) p := (hnk.keep fun b ys e => s2 _ _ e).keep t3
      obtain ⟨ys, m4⟩ := (lp.mem.same p4.1).same sz
      have fin : ∀ v, Fit Ed L S b v → ∀ H9, H9 = upd (upd H4 Z (.lst [])) kn (NDo P w kn (nput ys (beh Ed L S, b) p (.int v))) → ∃ a' p' k' xs' v', V.ref kn = .ref a' ∧ V.ref p = .ref p' ∧ ND P w H9 a' xs' ∧ NKAt H9 k' p' ∧ nget xs' k' = some v' ∧ Q v' H9 := by
        rintro v fv H9 rfl
        have m9 := m4.put n6 hnk4 g fv
        refine ⟨kn, p, (beh Ed L S, b), _, .int v, rfl, rfl, m9.nd, ?_, nget_put _ _ _ _, q _ v ((sb4.trans (Same.b sz)).trans sameB_upd) ⟨_, m9⟩ fv⟩
        exact hnk4.keep (upd_tups m4.h (fun ys z => nomatch z))
      rw [show ([] : List PyData) = ([] : List Int).map PyData.int from rfl, eqv_ints]
      refine ite2 (fun c2 => ?_) (fun c2 => ?_)
      · have en : ns = [] := of_decide_eq_true c2
        have er : rdy Ed L S = [] := by
          rw [en] at h2
          exact List.length_eq_zero_iff.mp h2.symm
        refine ⟨_, rfl, _, rfl, _, rfl, kn, p, (beh Ed L S, b), ys, rfl, rfl, m4.nd, hnk4, m4.len n6, ?_⟩
        rw [lf]
        exact ⟨_, rfl, _, rfl, fin _ (fit_end g er) _ rfl⟩
      · have en : ns ≠ [] := fun z => c2 (decide_eq_true z)
        have er : rdy Ed L S ≠ [] := fun z => en (by
          rw [z] at h2
          exact List.length_eq_zero_iff.mp h2)
        have nl : 0 < ns.length := List.length_pos_iff.mpr en
        have h4 : SqL K (upd H4 Z (.lst [])) D (ns.map V.int) := SqL.of (sz _ _ h14)
        cases b with
        | true =>
          refine ⟨_, rfl, _, rfl, iteT ⟨_, rfl, D, ns, rfl, h4, nl, fun m hm hle => ?_⟩⟩
          exact ⟨_, rfl, _, rfl, kn, p, (beh Ed L S, true), ys, rfl, rfl, m4.nd, hnk4, m4.len n6, _, rfl, _, rfl, fin _ (fit_min g er told hm hle) _ rfl⟩
        | false =>
          refine ⟨_, rfl, _, rfl, iteF ⟨_, rfl, D, ns, rfl, h4, nl, fun m hm hle => ?_⟩⟩
          exact ⟨_, rfl, _, rfl, kn, p, (beh Ed L S, false), ys, rfl, rfl, m4.nd, hnk4, m4.len n6, _, rfl, _, rfl, fin _ (fit_max g er told hm hle) _ rfl⟩
  · cases e : nget xs (beh Ed L S, b) with
    | none => rw [e] at c; exact absurd rfl c
    | some v =>
      obtain ⟨p', hp'⟩ := nget_mem e
      obtain ⟨S', v', e1, g1, hv, fit⟩ := mm.fit _ hp'
      cases hv
      have es : S' = S := by
        have z := congrArg stOf e1
        rw [stOf_beh g1] at z
        rw [← z]
        exact stOf_beh g
      rw [es] at fit
      exact ⟨_, rfl, _, rfl, kn, p, (beh Ed L S, b), xs, _, rfl, rfl, mm.nd, hnk, e, q _ v' (Same.b s1) ⟨xs, mm⟩ fit⟩
theorem ok_ll (B : Blt mg) (F : FnP K "_law_left" 35 f fd) (C_law_heads : Cal P w K mg base 1 "_law_heads" ["_law_laying_here"] spLHeads) (C_law_take : Cal P w K mg base 1 "_law_take" ["_law_near_here", "_law_laying_here", "_law_place"] spTake)
    (hm : mg "_law_left" = some (.ref f)) (hk : PySem.W.keepIn K (.ref f) = true) (hb : Binds K fd ["_law_near_here", "_law_laying_here", "_law_is_mine", "_law_known"] []) : ∀ m, FnOk P w K mg base CX0 (1 + m) f fd ["_law_near_here", "_law_laying_here", "_law_is_mine", "_law_known"] (spLL P w m)
  | 0 => ⟨fun vs H Q E h => by
      obtain ⟨nr, l, kn, E, L, S, b, rfl, _⟩ := h
      rfl, fun A outer s H args us vs Q E hr he hb hv hs => by
      obtain ⟨_, _, _, _, _, _, _, _, _, _, _, _, _, z, _⟩ := hs
      exact absurd z (Nat.not_lt_zero _)⟩
  | m + 1 => by
    rw [show 1 + (m + 1) = 2 + m by omega]
    exact ok_ll_step B F m C_law_heads C_law_take ⟨f, fd, ok_ll B F C_law_heads C_law_take hm hk hb m, hm, hk, hb⟩
end
end Ck

namespace Ck
open PySem PySem.Spec PyProof.Rows L2
theorem SameB.in2 {c k : Addr} {H H1 H2 : Hp} (s : SameB c H H1) (f : H k = none) (t : SameB k H1 H2) : SameB c H H2 := fun b o nb e => t b o (ne_of_none e f) (s b o nb e)
theorem RowAt.mid {K : PySem.W.Frag} {H0 H H' : Hp} {ro sc k : Addr} {ns : List Int} (r : RowAt K H ro sc ns) (r0 : RowAt K H0 ro sc ns) (s : SameB ro H0 H) (f : H0 k = none) (t : SameB k H H') : RowAt K H' ro sc ns := by
  obtain ⟨i, z, c, h1⟩ := r.ex
  obtain ⟨_, _, _, h0⟩ := r0.ex
  exact ⟨⟨i, z, c, t _ _ (ne_of_none h0 f) h1⟩, sql_sb r0.sq r.ne (s.in2 f t), r.ne⟩
theorem small_edges {n : Nat} {E : Edges} (ok : WebOk n E) (asc : AscE E) (n6 : n ≤ 6) : E.length ≤ 1000 :=
  Nat.le_trans (edges_len ok asc) (Nat.le_trans (Nat.mul_le_mul n6 n6) (by decide))
section
variable {P : Program} {w : World} {K : PySem.W.Frag} {mg : Str → Option Value} {base : Heap} {f : Addr} {fd : FuncData}
structure KdP (P : Program) (w : World) (K : PySem.W.Frag) (H0 : Hp) (ro sc : Addr) (ss : List Int) (a l nr kn : Addr) (E : Edges) (L : List Int) (H : Hp) : Prop where
  same : SameB ro H0 H
  row : RowAt K H ro sc ss
  play : Play H a l E L
  near : NearAt H nr L.length E
  mem : MemL P w E L H kn
  f : H0 kn = none
section
variable {H0 H H' : Hp} {ro sc a l nr kn : Addr} {ss : List Int} {E : Edges} {L : List Int}
theorem KdP.memo (x : KdP P w K H0 ro sc ss a l nr kn E L H) (r0 : RowAt K H0 ro sc ss) (s : SameB kn H H') (m : MemL P w E L H' kn) : KdP P w K H0 ro sc ss a l nr kn E L H' :=
  ⟨x.same.in2 x.f s, x.row.mid r0 x.same x.f s, x.play.keep (x.mem.tups s), x.mem.near s x.near, m, x.f⟩
theorem KdP.sb (x : KdP P w K H0 ro sc ss a l nr kn E L H) (s : SameB ro H H') (r : RowAt K H' ro sc ss) : KdP P w K H0 ro sc ss a l nr kn E L H' := by
  refine ⟨x.same.trans s, r, x.play.keep (x.row.tups s), x.near.sb x.row s, ?_, x.f⟩
  obtain ⟨ys, m⟩ := id x.mem
  exact x.mem.keep (fun o e => s _ _ (x.row.neO m.h (fun xs z => nomatch z)) e) (x.row.tups s)
theorem KdP.beh (x : KdP P w K H0 ro sc ss a l nr kn E L H) : TupI H l (beh E L []) := by
  rw [beh_nil x.play.c01]
  exact x.play.lay
end
abbrev CLL (P : Program) (w : World) (K : PySem.W.Frag) (mg : Str → Option Value) (base : Heap) : Prop := Cal P w K mg base 8 "_law_left" ["_law_near_here", "_law_laying_here", "_law_is_mine", "_law_known"] (spLL P w 7)
def spKind (K : PySem.W.Frag) : Sp := fun vs H Q _ => ∃ (ro sc : Addr) (ss : List Int), vs = [.ref ro] ∧ RowAt K H ro sc ss ∧ ∀ H' t a l E L, SameB ro H H' → H' t = some (.tup [.ref a, .ref l]) → Play H' a l E L → Q (.ref t) H'
theorem sc__law_kind : FnScope ["_law_row", "_law_web_here", "_law_laying_here", "_law_near_here", "_law_known", "_law_turn"] ["_law_row"] (defScope (topS 36)) := ⟨rfl, rfl, rfl, by decide +kernel, rfl, by decide +kernel, by decide +kernel⟩
theorem ok_kind (B : Blt mg) (F : FnP K "_law_kind" 36 f fd) (C_law_taken : CTaken P w K mg base) (C_law_order : Cal P w K mg base 2 "_law_order" ["_law_row", "_law_many"] (spOrder K)) (C_law_laying : Cal P w K mg base 2 "_law_laying" ["_law_web_here", "_law_order_here"] spLaying)
    (C_law_web : Cal P w K mg base 3 "_law_web" ["_law_row", "_law_most"] (spWeb K)) (C_law_full : Cal P w K mg base 3 "_law_full" ["_law_row", "_law_web_here"] (spFull K)) (C_law_near : CNear P w K mg base) (C_law_left : CLL P w K mg base) :
    FnOk P w K mg base CX0 9 f fd ["_law_row"] (spKind K) := by
  refine F.ok sc__law_kind (fun vs H Q E h => ?_) (fun cdv A outer s H vs Q E hr h => ?_)
  · obtain ⟨ro, sc, ss, rfl, _⟩ := h
    rfl
  obtain ⟨ro, sc, ss, rfl, R, q⟩ := h
  refine ⟨_, PSs.nox (pss_cons (ps_set (i := 1) sc__law_kind.nd rfl (.inl rfl) (pe_cal C_law_web hr (pa_cons (pv 0) (pa_cons pe_int pa_nil))))
    (pss_cons (ps_set (i := 2) sc__law_kind.nd rfl (.inl rfl) (pe_cal C_law_full hr (pa_cons (pv 0) (pa_cons (pv 1) pa_nil))))
    (pss_cons (ps_par (i := 3) (j := 4) (by rfl) sc__law_kind.nd rfl rfl (by decide) rfl rfl (pa_cons (pe_cal C_law_near hr (pa_cons (pv 1) pa_nil)) (pa_cons pe_nnew pa_nil)) (by rfl))
    (pss_cons (ps_for PassesOwn.never rfl (pi_range1 rfl B.range (pa_cons pe_int pa_nil)) (pg_name (i := 5) sc__law_kind.nd rfl (.inl rfl))
      (pss_one (ps_if (PW.pt (pw_and (pt_cmpR op_ne (pe_cal C_law_left hr (pa_cons (pv 3) (pa_cons (pv 2) (pa_cons pe_bl (pa_cons (pv 4) pa_nil))))) pe_int (nomark _)) (pw_and (pt_cmpR op_ne (pe_cal C_law_left hr (pa_cons (pv 3) (pa_cons (pv 2) (pa_cons pe_bl (pa_cons (pv 4) pa_nil))))) pe_int (nomark _)) (pw_and1 (pt_cmpR op_gt (pe_cal C_law_taken hr (pa_cons (pv 0) (pa_cons pe_int pa_nil))) pe_int (nomark _))))))
        (pss_cons (ps_set (i := 1) sc__law_kind.nd rfl (.inl rfl) (pe_cal C_law_web hr (pa_cons (pv 0) (pa_cons pe_int pa_nil))))
        (pss_one (ps_par3 (i := 2) (j := 3) (l := 4) (by rfl) sc__law_kind.nd rfl rfl rfl (by decide) (by decide) (by decide) rfl rfl rfl (pa_cons (pe_cal C_law_laying hr (pa_cons (pv 1) (pa_cons (pe_callTy call_tuple_of (by rfl) B.tup boot_tuple (pa_cons (pe_cal C_law_order hr (pa_cons (pv 0) (pa_cons (pe_ix ix_tup (pv 1) pe_int (fun _ _ => rfl)) pa_nil))) pa_nil)) pa_nil))) (pa_cons (pe_cal C_law_near hr (pa_cons (pv 1) pa_nil)) (pa_cons pe_nnew pa_nil))) (by rfl))))
        pss_nil)))
    (pss_one (ps_ret (pe_tup (pa_cons (pv 1) (pa_cons (pv 2) pa_nil))))))))), ?_⟩
  refine ⟨_, rfl, ro, sc, ss, rfl, R, fun H1 a n Ed sb1 R1 W1 ok asc n1 n6 => ?_⟩
  have el := small_edges ok asc n6
  refine ⟨_, rfl, _, rfl, ro, sc, ss, a, n, Ed, rfl, R1, W1, ok, n6, el, fun H2 l L sb2 R2 hl ll c01 => ?_⟩
  subst ll
  have W2 := W1.keep (R1.tups sb2)
  refine ⟨_, rfl, a, L.length, Ed, rfl, W2, n6, el, fun H3 nr rs s3 _ _ NR => fun kn hkn => ⟨_, _, rfl, ?_⟩⟩
  have sk := same_upd (o := NDo P w kn []) hkn
  have sb3 := (sb1.trans sb2).trans (Same.b s3)
  have R3 := R2.same s3
  have kd : KdP P w K H ro sc ss a l nr kn Ed L (upd H3 kn (NDo P w kn [])) :=
    ⟨sb3.trans (Same.b sk), R3.same sk, ⟨(W2.same s3).same sk, ok, n1, n6, asc, sk _ _ (s3 _ _ hl), c01⟩, NR.near.same sk, MemL.new, noneB sb3 (R3.nw hkn) hkn⟩
  refine ⟨6, rfl, by decide, by decide, ?_⟩
  refine for_it (walk_range (lo := 0) (n := (6 : Int).toNat)) (fun i σ H' => ∃ a l nr kn y5 E L, σ = [some (.ref ro), some (.ref a), some (.ref l), some (.ref nr), some (.ref kn), y5] ∧ KdP P w K H ro sc ss a l nr kn E L H') ⟨a, l, nr, kn, _, Ed, L, rfl, kd⟩ (fun _ _ _ _ _ => trivial) ?_ ?_
  · rintro i x σ H4 H5 hi ⟨a, l, nr, kn, y5, Ed, L, rfl, kd⟩ ⟨rfl, rfl⟩
    have n6 := kd.play.n6
    refine ⟨_, rfl, _, rfl, _, rfl, nr, l, kn, Ed, L, [], true, rfl, kd.near, kd.beh, kd.play.ok, n6, Good.nil _, by omega, kd.mem, fun H6 v sb6 m6 _ => ?_⟩
    replace kd := kd.memo R sb6 m6
    refine ⟨rfl, _, rfl, ite2 (fun _ => ?_) (fun _ => iteF ⟨a, l, nr, kn, _, Ed, L, rfl, kd⟩)⟩
    refine ⟨_, rfl, _, rfl, _, rfl, nr, l, kn, Ed, L, [], false, rfl, kd.near, kd.beh, kd.play.ok, n6, Good.nil _, by omega, kd.mem, fun H7 v sb7 m7 _ => ?_⟩
    replace kd := kd.memo R sb7 m7
    refine ⟨rfl, _, rfl, ite2 (fun _ => ?_) (fun _ => iteF ⟨a, l, nr, kn, _, Ed, L, rfl, kd⟩)⟩
    refine ⟨_, rfl, ro, sc, ss, 5, rfl, by decide, by decide, kd.row, fun H8 v sb8 R8 _ _ => ?_⟩
    replace kd := kd.sb sb8 R8
    refine ⟨_, _, rfl, rfl, _, rfl, ite2 (fun _ => ?_) (fun _ => ⟨a, l, nr, kn, _, Ed, L, rfl, kd⟩)⟩
    have sb0 := kd.same
    have R0 := kd.row
    clear kd sb6 sb7 sb8 m6 m7
    refine ⟨_, rfl, ro, sc, ss, rfl, R0, fun H1 a n Ed sb1 R1 W1 ok asc n1 n6 => ?_⟩
    have el := small_edges ok asc n6
    obtain ⟨et, es, ha, _, _⟩ := W1.ex
    refine ⟨_, rfl, _, rfl, _, rfl, a, _, 0, .int n, rfl, rfl, SqT.of ha, rfl, ro, sc, ss, n, rfl, n6, R1, fun H2 p ns sb2 R2 fp hp pm => ⟨p, _, rfl, .inl ⟨SqL.of hp, fun t ht => ?_⟩⟩⟩
    have st := same_upd (o := .tup (ns.map V.int)) ht
    have W2 := (W1.keep (R1.tups sb2)).same st
    refine ⟨a, t, n, Ed, ns, rfl, W2, ok, n6, el, upd_same, pm, fun H3 l L s3 hl ll c01 => ?_⟩
    subst ll
    refine ⟨_, rfl, a, L.length, Ed, rfl, W2.same s3, n6, el, fun H4 nr rs s4 _ _ NR => fun kn hkn => ⟨_, _, _, rfl, ?_⟩⟩
    have sk := same_upd (o := NDo P w kn []) hkn
    have sb4 := (((sb0.trans sb1).trans sb2).trans (Same.b st)).trans ((Same.b s3).trans (Same.b s4))
    have R4 := ((R2.same st).same s3).same s4
    exact ⟨a, l, nr, kn, _, Ed, L, rfl, sb4.trans (Same.b sk), R4.same sk, ⟨((W2.same s3).same s4).same sk, ok, n1, n6, asc, sk _ _ (s4 _ _ hl), c01⟩, NR.near.same sk, MemL.new, noneB sb4 (R4.nw hkn) hkn⟩
  · rintro σ H4 ⟨a, l, nr, kn, y5, Ed, L, rfl, kd⟩
    refine ⟨_, rfl, _, rfl, small (Nat.le_of_ble_eq_true rfl), fun t ht => q _ t a l Ed L (kd.same.trans (Same.b (same_upd ht))) upd_same (kd.play.same (same_upd ht))⟩
end
end Ck

namespace Ck
open PySem PySem.Spec PyProof.Rows L2
theorem split2 {G : Prop} {F : L2.St → Hp → Prop} {R : L2.St → Hp → Prop} (main : (∀ σ H, R σ H → F σ H) → G) (cont : ∀ σ H, R σ H → F σ H) : G := main cont
theorem TL.nilR {H : Hp} {xs : List V} {ks : List (List Int)} (t : TL H xs ks) : TL H (xs ++ []) ks := by
  rw [List.append_nil]
  exact t
theorem RowL.nilR {H : Hp} {xs : List V} {ks : List (List Int × Bool)} (t : RowL H xs ks) : RowL H (xs ++ []) ks := by
  rw [List.append_nil]
  exact t
theorem cat_one {K : PySem.W.Frag} {H : Hp} {l T : Addr} {S : List Int} {k : Int} {Q : VK} (hl : TupI H l S) (hT : H T = some (.tup [V.int k])) (sl : S.length ≤ 900) (h : ∀ a H1, Same H H1 → TupI H1 a (S ++ [k]) → Q (.ref a) H1) : rCatA K (.ref l) (.ref T) H Q := by
  refine ⟨l, T, _, _, rfl, rfl, SqT.of hl, SqT.of hT, ?_, fun e => ?_, fun _ e => absurd e (by simp), fun e1 e2 p hp => ?_⟩
  · rw [List.length_map]
    exact small (by simp; omega)
  · have e0 : S = [] := by simpa using e
    subst e0
    exact h T _ (Same.refl _) hT
  · refine h p _ (same_upd hp) ?_
    show upd _ _ _ _ = _
    rw [upd_same, List.map_append]
    rfl
section
variable {E : Edges} {L : List Int} {f : Bool}
theorem rch_start : ∀ {S : List Int} {b : Bool}, Rch E L true S b → S ≠ [] → rdy E L [] ≠ []
  | _, _, .root, h => absurd rfl h
  | _, _, .mine (S := S0) r n, _ => by
    by_cases e : S0 = []
    · subst e; exact n
    · exact rch_start r e
  | _, _, .his (S := S0) r n, _ => by
    by_cases e : S0 = []
    · cases rch_nil r e
    · exact rch_start r e
structure MetI (E : Edges) (L : List Int) (f : Bool) (j : Nat) (ps : List (List Int × Bool)) (i : Nat) (ks : List (List Int)) : Prop where
  nd : ks.Nodup
  snd : ∀ T ∈ ks, Rch E L f T true ∧ rdy E L T ≠ []
  cmp : ∀ T, T.length < j → Rch E L f T true → rdy E L T ≠ [] → T ∈ ks
  cmI : ∀ T, (T, true) ∈ ps.take i → rdy E L T ≠ [] → T ∈ ks
  fst : f = true → ks = [] ∨ ∃ r, ks = [] :: r
theorem MetI.pass {j i : Nat} {ps : List (List Int × Bool)} {ks : List (List Int)} {S : List Int} {b : Bool} (m : MetI E L f j ps i ks) (e : ps[i]? = some (S, b)) (h : b = true → rdy E L S ≠ [] → S ∈ ks) : MetI E L f j ps (i + 1) ks :=
  ⟨m.nd, m.snd, m.cmp, fun T hT n => by
    rw [take_push e] at hT
    rcases List.mem_append.mp hT with z | z
    · exact m.cmI T z n
    · cases List.mem_singleton.mp z
      exact h rfl n, m.fst⟩
theorem MetI.add {j i : Nat} {ps : List (List Int × Bool)} {ks : List (List Int)} {S : List Int} (m : MetI E L f j ps i ks) (e : ps[i]? = some (S, true)) (lv : Lev E L f j (S, true)) (n : rdy E L S ≠ []) (hk : S ∉ ks) : MetI E L f j ps (i + 1) (ks ++ [S]) := by
  refine ⟨nd_snoc m.nd hk, fun T hT => ?_, fun T h1 h2 h3 => List.mem_append_left _ (m.cmp T h1 h2 h3), fun T hT hn => ?_, fun ef => ?_⟩
  · rcases List.mem_append.mp hT with z | z
    · exact m.snd T z
    · rw [List.mem_singleton.mp z]
      exact ⟨lv.1, n⟩
  · rw [take_push e] at hT
    rcases List.mem_append.mp hT with z | z
    · exact List.mem_append_left _ (m.cmI T z hn)
    · cases List.mem_singleton.mp z
      exact List.mem_append_right _ List.mem_cons_self
  · rcases m.fst ef with z | ⟨r, z⟩
    · rw [z]
      refine .inr ⟨[], ?_⟩
      by_cases es : S = []
      · rw [es]; rfl
      · exfalso
        subst ef
        have n0 := rch_start lv.1 es
        have l0 : S.length = j := lv.2
        have l1 : 0 < S.length := List.length_pos_iff.mpr es
        have : ([] : List Int) ∈ ks := m.cmp [] (by simp; omega) .root n0
        rw [z] at this
        cases this
    · exact .inr ⟨r ++ [S], by rw [z]; rfl⟩
theorem MetI.next {j : Nat} {ps qs : List (List Int × Bool)} {ks : List (List Int)} (m : MetI E L f j ps ps.length ks) (h : ∀ p, Lev E L f j p → p ∈ ps) : MetI E L f (j + 1) qs 0 ks :=
  ⟨m.nd, m.snd, fun T h1 h2 h3 => by
    by_cases z : T.length < j
    · exact m.cmp T z h2 h3
    · refine m.cmI T ?_ h3
      rw [List.take_length]
      exact h _ ⟨h2, by show T.length = j; omega⟩, fun T hT => by simp at hT, m.fst⟩
theorem MetI.start : MetI E L f 0 [([], f)] 0 [] := ⟨List.nodup_nil, fun T h => (nomatch h), fun T h => absurd h (Nat.not_lt_zero _), fun T h => by simp at h, fun _ => .inl rfl⟩
theorem MetI.ok {j i : Nat} {ps : List (List Int × Bool)} {ks : List (List Int)} (m : MetI E L f j ps i ks) : FstOk ks := by
  cases f with
  | true =>
    rcases m.fst rfl with z | z
    · exact .inl fun S hS => by rw [z] at hS; cases hS
    · exact .inr z
  | false => exact .inl fun S hS e => by cases rch_nil (m.snd S hS).1 e
theorem nxt_true {S : List Int} (h : rdy E L S ≠ []) : nxt E L (S, true) = [mv E L S].map fun k => (more S k, !true) := by
  unfold nxt
  rw [if_pos rfl, if_neg h]
  rfl
theorem nxt_none {S : List Int} (h : rdy E L S = []) : nxt E L (S, true) = (rdy E L S).map fun k => (more S k, !true) := by
  unfold nxt
  rw [if_pos rfl, if_pos h, h]
  rfl
theorem nxt_false {S : List Int} : nxt E L (S, false) = (rdy E L S).map fun k => (more S k, !false) := by
  unfold nxt
  rw [if_neg (by simp)]
  rfl
end
structure FlS (H0 H : Hp) (a l md nr : Addr) (E : Edges) (L : List Int) (Ks : List (List Int)) : Prop where
  play : Play H a l E L
  near : NearAt H nr L.length E
  mvs : H md = some (.dT (tab (pmv E L) Ks))
  base : Same H0 H
theorem FlS.same {H0 H H' : Hp} {a l md nr : Addr} {E : Edges} {L : List Int} {Ks : List (List Int)} (x : FlS H0 H a l md nr E L Ks) (s : Same H H') : FlS H0 H' a l md nr E L Ks :=
  ⟨x.play.same s, x.near.same s, s _ _ x.mvs, x.base.trans s⟩
structure RwL (H : Hp) (p : Addr) (ps : List (List Int × Bool)) : Prop where
  ex : ∃ ys, H p = some (.lst ys) ∧ RowL H ys ps
theorem RwL.same {H H' : Hp} {p : Addr} {ps : List (List Int × Bool)} (x : RwL H p ps) (s : Same H H') : RwL H' p ps := by
  obtain ⟨ys, h1, h2⟩ := x.ex
  exact ⟨ys, s _ _ h1, RowL.keep h2 fun b ys q => s _ _ q⟩
structure TlL (H : Hp) (p : Addr) (ks : List (List Int)) : Prop where
  ex : ∃ ys, H p = some (.lst ys) ∧ TL H ys ks
theorem TlL.same {H H' : Hp} {p : Addr} {ps : List (List Int)} (x : TlL H p ps) (s : Same H H') : TlL H' p ps := by
  obtain ⟨ys, h1, h2⟩ := x.ex
  exact ⟨ys, s _ _ h1, TL.same s h2⟩
structure NxP (E : Edges) (L : List Int) (f : Bool) (j : Nat) (ps : List (List Int × Bool)) (i : Nat) (qs : List (List Int × Bool)) : Prop where
  nd : qs.Nodup
  snd : ∀ q ∈ qs, Lev E L f (j + 1) q
  cmp : ∀ p ∈ ps.take i, ∀ q ∈ nxt E L p, q ∈ qs
theorem rowAt {H : Hp} : ∀ {xs : List V} {ps : List (List Int × Bool)} {i : Nat} {x : V}, RowL H xs ps → xs[i]? = some x → ∃ p, ps[i]? = some p ∧ ∃ a, x = V.ref a ∧ NKAt H p a
  | _, _, _, _, .nil, e => by simp at e
  | _, _, 0, x, .cons r _, e => by
    simp at e
    exact ⟨_, by simp, e ▸ r⟩
  | _, _, i + 1, x, .cons _ t, e => by
    obtain ⟨p, h1, h2⟩ := rowAt (i := i) (x := x) t (by simpa using e)
    exact ⟨p, by simpa using h1, h2⟩
theorem lev_good {E : Edges} {L : List Int} {f : Bool} {j : Nat} {p : List Int × Bool} (w : wn E L [] f = true) (h : Lev E L f j p) : Good L.length p.1 := h.1.good w
section
variable {P : Program} {w : World} {K : PySem.W.Frag} {mg : Str → Option Value} {base : Heap} {f : Addr} {fd : FuncData}
def spFollows : Sp := fun vs H Q _ => ∃ (a l md : Addr) (E : Edges) (L : List Int) (b : Bool) (Ks : List (List Int)), vs = [.ref a, .ref l, .bl b, .ref md] ∧ Play H a l E L ∧ wn E L [] b = true ∧ H md = some (.dT (tab (pmv E L) Ks)) ∧ (∀ T, T ∈ Ks ↔ Rch E L b T true ∧ rdy E L T ≠ []) ∧
  ∀ H' p Ts, Same H H' → TlL H' p Ts → Ts.Nodup → Ts.Pairwise (fun a b => lle a b = true) → (∀ T, T ∈ Ts ↔ Rch E L b T true ∧ rdy E L T ≠ []) → Q (.ref p) H'
theorem sc__law_follows : FnScope ["_law_web_here", "_law_laying_here", "_law_is_first", "_law_moves", "_law_near_here", "_law_met", "_law_rows", "_law_turn", "_law_more", "_law_state", "_law_is_mine", "_law_some", "_law_k", "_law_there"] ["_law_web_here", "_law_laying_here", "_law_is_first", "_law_moves"] (defScope (topS 38)) := ⟨rfl, rfl, rfl, by decide +kernel, rfl, by decide +kernel, by decide +kernel⟩
theorem ok_follows (B : Blt mg) (F : FnP K "_law_follows" 38 f fd) (C_law_near : CNear P w K mg base) (C_law_heads : Cal P w K mg base 1 "_law_heads" ["_law_laying_here"] spLHeads) (C_law_behind : Cal P w K mg base 1 "_law_behind" ["_law_near_here", "_law_laying_here", "_law_state"] spLBeh) :
    FnOk P w K mg base CX0 2 f fd ["_law_web_here", "_law_laying_here", "_law_is_first", "_law_moves"] spFollows := by
  refine F.ok sc__law_follows (fun vs H Q E h => ?_) (fun cdv A outer s H vs Q E hr h => ?_)
  · obtain ⟨a, l, md, E, L, b, Ks, rfl, _⟩ := h
    rfl
  obtain ⟨a, l, md, Ed, L, fst, Ks, rfl, p, wtr, hmd, kmem, q⟩ := h
  have n6 := p.n6
  refine ⟨_, PSs.nox (pss_cons (ps_par3 (i := 4) (j := 5) (l := 6) (by rfl) sc__law_follows.nd rfl rfl rfl (by decide) (by decide) (by decide) rfl rfl rfl (pa_cons (pe_cal C_law_near hr (pa_cons (pv 0) pa_nil)) (pa_cons (pe_lst pa_nil) (pa_cons (pe_lst (pa_cons (pe_tup (pa_cons (pe_tup pa_nil) (pa_cons (pv 2) pa_nil))) pa_nil)) pa_nil))) (by rfl))
    (pss_cons (ps_for PassesOwn.never rfl (pi_range1 rfl B.range (pa_cons (pe_op op_add (pe_ix ix_tup (pv 0) pe_int (fun _ _ => rfl)) pe_int) pa_nil)) (pg_name (i := 7) sc__law_follows.nd rfl (.inl rfl))
      (pss_cons (ps_set (i := 8) sc__law_follows.nd rfl (.inl rfl) (pe_lst pa_nil))
      (pss_cons (ps_for PassesOwn.never rfl (pi_list (pv 6)) (pg_tup (by rfl) (pgs_cons (pg_name (i := 9) sc__law_follows.nd rfl (.inl rfl)) (pgs_cons (pg_name (i := 10) sc__law_follows.nd rfl (.inl rfl)) pgs_nil)))
        (pss_cons (ps_set (i := 11) sc__law_follows.nd rfl (.inl rfl) (pe_cal C_law_heads hr (pa_cons (pe_cal C_law_behind hr (pa_cons (pv 4) (pa_cons (pv 1) (pa_cons (pv 9) pa_nil)))) pa_nil)))
        (pss_cons (ps_if (PW.pt (pw_and (pt_cmpR (op_eqD hr.units) (pv 11) (pe_lst pa_nil) (nomark _)) (pw_and1 (pt_cmpR op_lt (pe_callB call_len_seq (by rfl) B.len boot_len (pa_cons (pv 9) pa_nil)) (pe_ix ix_tup (pv 0) pe_int (fun _ _ => rfl)) (nomark _)))))
          (pss_one (ps_ret pe_non))
          pss_nil)
        (pss_cons (ps_if (PW.pt (pw_and (pt_val (pv 10)) (pw_and1 (pt_cmpR (op_neD hr.units) (pv 11) (pe_lst pa_nil) (nomark _)))))
          (pss_cons (ps_if (PW.pt (pw_or (pt_cmp (pc_dnotin (hu_of hr) (pv 9) (pv 3))) (pw_or1 (pt_cmpR op_notIn_seq (pe_dget (hu_of hr) (pv 3) (pv 9) (fun _ _ => rfl)) (pv 11) (by rfl)))))
            (pss_one (ps_ret pe_non))
            pss_nil)
          (pss_cons (ps_set (i := 5) sc__law_follows.nd rfl (.inl rfl) (pe_op op_cat (pv 5) (pe_ifExp (pt_cmpR (op_notInD (units65 hr)) (pv 9) (pv 5) (by rfl)) (pe_lst (pa_cons (pv 9) pa_nil)) (pe_lst pa_nil))))
          (pss_one (ps_set (i := 11) sc__law_follows.nd rfl (.inl rfl) (pe_lst (pa_cons (pe_dget (hu_of hr) (pv 3) (pv 9) (fun _ _ => rfl)) pa_nil))))))
          pss_nil)
        (pss_one (ps_for PassesOwn.never rfl (pi_list (pv 11)) (pg_name (i := 12) sc__law_follows.nd rfl (.inl rfl))
          (pss_cons (ps_set (i := 13) sc__law_follows.nd rfl (.inl rfl) (pe_tup (pa_cons (pe_callTy call_tuple_of (by rfl) B.tup boot_tuple (pa_cons (pe_callB cr_sortI0 (by rfl) B.sorted boot_sorted (pa_cons (pe_op op_catA (pv 9) (pe_tup (pa_cons (pv 12) pa_nil))) pa_nil)) pa_nil)) (pa_cons (pe_not (pv 10)) pa_nil))))
          (pss_one (ps_set (i := 8) sc__law_follows.nd rfl (.inl rfl) (pe_op op_cat (pv 8) (pe_ifExp (pt_cmpR (op_notInD (units65 hr)) (pv 13) (pv 8) (by rfl)) (pe_lst (pa_cons (pv 13) pa_nil)) (pe_lst pa_nil))))))))))))
      (pss_one (ps_set (i := 6) sc__law_follows.nd rfl (.inl rfl) (pv 8))))))
    (pss_one (ps_ret (pe_callB (cr_sortLT hr.units) (by rfl) B.sorted boot_sorted (pa_cons (pv 5) pa_nil)))))), ?_⟩
  refine ⟨_, rfl, a, L.length, Ed, rfl, p.web, n6, p.elen, fun H1 nr rs s1 _ _ NR => ⟨small (Nat.zero_le _), fun me hme => ⟨small (Nat.zero_le _), fun T1 hT1 => ⟨_, rfl, small (Nat.le_of_ble_eq_true rfl), fun T2 hT2 => ⟨small (Nat.le_of_ble_eq_true rfl), fun rw_ hrw => ⟨_, _, _, rfl, ?_⟩⟩⟩⟩⟩⟩
  have e1 := same_upd (o := .lst []) hme
  have e2 := same_upd (o := .tup []) hT1
  have e3 := same_upd (o := .tup [.ref T1, .bl fst]) hT2
  have e4 := same_upd (o := .lst [.ref T2]) hrw
  have e34 := e3.trans e4
  have e24 := e2.trans e34
  have e14 := e1.trans e24
  have fl0 : FlS H H1 a l md nr Ed L Ks := ⟨p.same s1, NR.near, s1 _ _ hmd, s1⟩
  have fl := fl0.same e14
  obtain ⟨et, es, ha, _, _⟩ := fl.play.web.ex
  refine ⟨_, rfl, a, _, 0, .int L.length, rfl, rfl, SqT.of ha, rfl, _, _, rfl, rfl, ?_⟩
  refine ⟨(L.length : Int) + 2, rfl, by omega, by omega, ?_⟩
  refine for_it (walk_range (lo := 0) (n := ((L.length : Int) + 2).toNat)) (fun j σ H' => ∃ me rw_ ks ps y7 y8 y9 y10 y11 y12 y13, σ = [some (.ref a), some (.ref l), some (.bl fst), some (.ref md), some (.ref nr), some (.ref me), some (.ref rw_), y7, y8, y9, y10, y11, y12, y13] ∧
    FlS H H' a l md nr Ed L Ks ∧ TlL H' me ks ∧ RwL H' rw_ ps ∧ MetI Ed L fst j ps 0 ks ∧ ∀ q, q ∈ ps ↔ Lev Ed L fst j q) ⟨me, rw_, [], [([], fst)], _, _, _, _, _, _, _, rfl, fl, ⟨[], e24 _ _ upd_same, .nil⟩, ⟨_, upd_same, .cons ⟨T2, rfl, T1, e4 _ _ upd_same, e34 _ _ upd_same⟩ .nil⟩, MetI.start, fun q => by rw [lev_zero, List.mem_singleton]⟩ (fun _ _ _ _ _ => trivial) ?_ ?_
  · rintro j x σ H2 H3 hj ⟨me, rw_, ks, ps, y7, y8, y9, y10, y11, y12, y13, rfl, fl, tm, rl, mi, lv⟩ ⟨rfl, rfl⟩
    refine ⟨small (Nat.zero_le _), fun mr hmr => ?_⟩
    have s3 := same_upd (o := .lst []) hmr
    replace fl := fl.same s3
    replace tm := tm.same s3
    replace rl := rl.same s3
    have rm : RwL (upd H3 mr (.lst [])) mr [] := ⟨[], upd_same, .nil⟩
    generalize upd H3 mr (.lst []) = H4 at fl tm rl rm
    obtain ⟨ys, hrw, rll⟩ := rl.ex
    refine ⟨_, rfl, rw_, rfl, ⟨_, SqL.of hrw⟩, ?_⟩
    refine for_it (walk_list (xs := ys)) (fun i σ H' => ∃ me mr ks qs y9 y10 y11 y12 y13, σ = [some (.ref a), some (.ref l), some (.bl fst), some (.ref md), some (.ref nr), some (.ref me), some (.ref rw_), some (.int (0 + (j : Nat))), some (.ref mr), y9, y10, y11, y12, y13] ∧
      FlS H H' a l md nr Ed L Ks ∧ TlL H' me ks ∧ (H' rw_ = some (.lst ys) ∧ RowL H' ys ps) ∧ MetI Ed L fst j ps i ks ∧ RwL H' mr qs ∧ NxP Ed L fst j ps i qs) ⟨me, mr, ks, [], _, _, _, _, _, rfl, fl, tm, ⟨hrw, rll⟩, mi, rm, ⟨List.nodup_nil, fun q h => (nomatch h), fun p h => by simp at h⟩⟩ (fun i σ H' _ ⟨_, _, _, _, _, _, _, _, _, _, _, _, z, _⟩ => SqL.of z.1) ?_ ?_
    · rintro i x σ H5 H6 hi ⟨me, mr, ks, qs, y9, y10, y11, y12, y13, rfl, fl, tm, ⟨hrw, rl⟩, mi, rm, nx⟩ ⟨rfl, ex⟩
      obtain ⟨t, ⟨S, b⟩, rfl, hps, s, ht, hs0⟩ : ∃ t p, x = V.ref t ∧ ps[i]? = some p ∧ NKAt H6 p t := by
        obtain ⟨p, hp, a, e, h⟩ := rowAt rl ex
        exact ⟨a, p, e, hp, h⟩
      have lvS : Lev Ed L fst j (S, b) := (lv _).mp (List.mem_of_getElem? hps)
      have g : Good L.length S := lev_good wtr lvS
      refine ⟨t, _, rfl, SqT.of ht, rfl, _, _, rfl, _, _, rfl, rfl, ?_⟩
      refine ⟨_, rfl, _, rfl, _, rfl, nr, l, s, Ed, L, S, rfl, fl.near, fl.play.lay, hs0, fl.play.elen, n6, fun H7 pb s7 hpb => ?_⟩
      refine ⟨pb, _, rfl, hpb, by rw [beh_len]; omega, fun H8 r s8 hr8 => ?_⟩
      refine ⟨_, rfl, small (Nat.zero_le _), fun Z hZ => ⟨_, _, dp_ints (SqL.of (same_upd hZ _ _ hr8)), dp_nil (SqL.of upd_same), (sh_ints _).of, (sh_ints []).of, _, rfl, ?_⟩⟩
      rw [show ([] : List PyData) = ([] : List Int).map PyData.int from rfl, eqv_ints]
      have s9 := same_upd (o := .lst []) hZ
      have s69 := (s7.trans s8).trans s9
      replace fl := fl.same s69
      replace tm := tm.same s69
      replace hrw := s69 _ _ hrw
      replace rl := RowL.keep rl fun b ys q => s69 _ _ q
      replace rm := rm.same s69
      have hs : TupI _ s S := s69 _ _ hs0
      replace hr8 := s9 _ _ hr8
      generalize upd H8 Z (.lst []) = H9 at fl tm hrw rl rm hs hr8
      clear s69 s9 s8 s7 hpb ht hs0
      obtain ⟨et, es, ha, _, _⟩ := fl.play.web.ex
      refine if_to (fun c n => ?_) (iteF ?_)
      · have fu := lvS.1.full wtr (of_decide_eq_true c)
        refine ⟨_, rfl, s, _, rfl, .inr (SqT.of hs), _, rfl, a, _, 0, .int L.length, rfl, rfl, SqT.of ha, rfl, _, _, rfl, rfl, _, rfl, ite2 (fun c2 => ?_) (fun _ => n)⟩
        have c3 := of_decide_eq_true c2
        rw [List.length_map] at c3
        exact absurd fu (by show ¬ S.length = L.length; omega)
      refine ⟨_, rfl, _, rfl, ?_⟩
      apply split2 (R := fun σ H' => ∃ (me so : Addr) (ks : List (List Int)) (os : List Int), σ = [some (.ref a), some (.ref l), some (.bl fst), some (.ref md), some (.ref nr), some (.ref me), some (.ref rw_), some (.int (0 + (j : Nat))), some (.ref mr), some (.ref s), some (.bl b), some (.ref so), y12, y13] ∧
        FlS H H' a l md nr Ed L Ks ∧ TlL H' me ks ∧ (H' rw_ = some (.lst ys) ∧ RowL H' ys ps) ∧ MetI Ed L fst j ps (i + 1) ks ∧ RwL H' mr qs ∧ TupI H' s S ∧ H' so = some (.lst (os.map V.int)) ∧ nxt Ed L (S, b) = os.map fun k => (more S k, !b))
      · intro cont
        refine ite2 (fun hb => ?_) (fun hb => ?_)
        rotate_left
        · have hb : b = false := by simpa using hb
          refine iteF ?_
          refine cont _ _ ?_
          exact ⟨me, r, ks, rdy Ed L S, rfl, fl, tm, ⟨hrw, rl⟩, mi.pass hps (fun z _ => by rw [hb] at z; cases z), rm, hs, hr8, by rw [hb]; exact nxt_false⟩
        · have hb : b = true := hb
          have lvT : Lev Ed L fst j (S, true) := by
            rw [← hb]
            exact lvS
          have hpT : ps[i]? = some (S, true) := by
            rw [← hb]
            exact hps
          refine ⟨_, rfl, small (Nat.zero_le _), fun Z2 hZ2 => ⟨_, _, dp_ints (SqL.of (same_upd hZ2 _ _ hr8)), dp_nil (SqL.of upd_same), (sh_ints _).of, (sh_ints []).of, _, rfl, ?_⟩⟩
          rw [show ([] : List PyData) = ([] : List Int).map PyData.int from rfl, eqv_ints]
          have s9 := same_upd (o := .lst []) hZ2
          replace fl := fl.same s9
          replace tm := tm.same s9
          replace hrw := s9 _ _ hrw
          replace rl := RowL.keep rl fun b ys q => s9 _ _ q
          replace rm := rm.same s9
          replace hs : TupI _ s S := s9 _ _ hs
          replace hr8 := s9 _ _ hr8
          generalize upd H9 Z2 (.lst []) = H10 at fl tm hrw rl rm hs hr8
          refine ite2 (fun c => ?_) (fun c => ?_)
          · have nr_ : rdy Ed L S ≠ [] := by simpa using c
            have mvo := mv_ok g nr_ (lvT.1.ok wtr).2
            have hKs : S ∈ Ks := (kmem S).mpr ⟨lvT.1, nr_⟩
            have dg := DGet.t fl.mvs (key_tup hs)
            rw [tab_val, if_pos hKs] at dg
            refine ⟨_, rfl, _, rfl, md, _, rfl, dg, _, rfl, iteF ?_⟩
            refine ⟨_, rfl, _, rfl, md, _, rfl, dg, _, rfl, r, _, rfl, .inl (SqL.of hr8), rfl, flat_ints _, _, rfl, ?_⟩
            rw [inV_int, decide_eq_true mvo.1]
            refine iteF ?_
            obtain ⟨xs, hme, tl⟩ := tm.ex
            refine ⟨_, rfl, _, rfl, _, rfl, dT S, ks.map dT, dp_T hs, dp_TL (SqL.of hme) tl, (sh_dT _).of, (sh_dTs _).of, _, rfl, ?_⟩
            rw [any_eqv eqv_dT]
            have kl : ks.length ≤ 64 := states_le n6 mi.nd fun T hT => (mi.snd T hT).1.good wtr
            have xl : xs.length = ks.length := TL.len tl
            have en : nxt Ed L (S, b) = [mv Ed L S].map fun k => (more S k, !b) := by
              rw [hb]
              exact nxt_true nr_
            refine ite2 (fun c2 => ?_) (fun c2 => ?_)
            · have hk : S ∉ ks := by simpa using c2
              refine ⟨_, rfl, small (Nat.le_of_ble_eq_true rfl), fun z hz => ⟨me, z, xs, _, rfl, rfl, same_upd hz _ _ hme, upd_same, Nat.le_trans (show xs.length + 1 ≤ 65 by omega) (by decide), fun me2 hme2 => ?_⟩⟩
              have s10 := (same_upd (o := .lst [.ref s]) hz).trans (same_upd (o := .lst (xs ++ [.ref s])) hme2)
              have dg2 : DGet (upd (upd H10 z (.lst [.ref s])) me2 (.lst (xs ++ [.ref s]))) md (.ref s) (some (pmv Ed L S)) := by
                have dg := DGet.t (fl.same s10).mvs (key_tup (S := S) (s10 _ _ hs))
                rw [tab_val, if_pos hKs] at dg
                exact dg
              refine ⟨_, rfl, _, rfl, md, _, rfl, dg2, small (Nat.le_of_ble_eq_true rfl), fun so hso => ?_⟩
              have s11 := s10.trans (same_upd (o := .lst [pmv Ed L S]) hso)
              have s12 := same_upd (o := .lst [pmv Ed L S]) hso
              refine cont _ _ ?_
              exact ⟨me2, so, ks ++ [S], [mv Ed L S], rfl, fl.same s11, ⟨_, s12 _ _ upd_same, (TL.same s11 tl).snoc ⟨s, rfl, s11 _ _ hs⟩⟩, ⟨s11 _ _ hrw, RowL.keep rl fun b ys q => s11 _ _ q⟩, mi.add hpT lvT nr_ hk, rm.same s11, s11 _ _ hs, upd_same, en⟩
            · have hk : S ∈ ks := by simpa using c2
              refine ⟨small (Nat.zero_le _), fun z hz => ⟨me, z, xs, _, rfl, rfl, same_upd hz _ _ hme, upd_same, Nat.le_trans (show xs.length + 0 ≤ 65 by omega) (by decide), fun me2 hme2 => ?_⟩⟩
              have s10 := (same_upd (o := .lst []) hz).trans (same_upd (o := .lst (xs ++ [])) hme2)
              have dg2 : DGet (upd (upd H10 z (.lst [])) me2 (.lst (xs ++ []))) md (.ref s) (some (pmv Ed L S)) := by
                have dg := DGet.t (fl.same s10).mvs (key_tup (S := S) (s10 _ _ hs))
                rw [tab_val, if_pos hKs] at dg
                exact dg
              refine ⟨_, rfl, _, rfl, md, _, rfl, dg2, small (Nat.le_of_ble_eq_true rfl), fun so hso => ?_⟩
              have s11 := s10.trans (same_upd (o := .lst [pmv Ed L S]) hso)
              have s12 := same_upd (o := .lst [pmv Ed L S]) hso
              refine cont _ _ ?_
              exact ⟨me2, so, ks, [mv Ed L S], rfl, fl.same s11, ⟨_, s12 _ _ upd_same, TL.nilR (TL.same s11 tl)⟩, ⟨s11 _ _ hrw, RowL.keep rl fun b ys q => s11 _ _ q⟩, mi.pass hps (fun _ _ => hk), rm.same s11, s11 _ _ hs, upd_same, en⟩
          · have nr_ : rdy Ed L S = [] := by simpa using c
            refine cont _ _ ?_
            exact ⟨me, r, ks, rdy Ed L S, rfl, fl, tm, ⟨hrw, rl⟩, mi.pass hps (fun _ n => absurd nr_ n), rm, hs, hr8, by rw [hb]; exact nxt_none nr_⟩
      · rintro σ H7 ⟨me, so, ks, os, rfl, fl, tm, ⟨hrw, rl⟩, mi, rm, hs, hso, en⟩
        refine ⟨_, rfl, so, rfl, ⟨_, SqL.of hso⟩, ?_⟩
        have nxl : ∀ q ∈ os.map (fun k => (more S k, !b)), Lev Ed L fst (j + 1) q := fun q hq => (lev_succ _ _).mpr ⟨_, lvS, by rw [en]; exact hq⟩
        refine for_it (walk_list (xs := os.map V.int)) (fun m σ H' => ∃ mr qs y12 y13, σ = [some (.ref a), some (.ref l), some (.bl fst), some (.ref md), some (.ref nr), some (.ref me), some (.ref rw_), some (.int (0 + (j : Nat))), some (.ref mr), some (.ref s), some (.bl b), some (.ref so), y12, y13] ∧
          FlS H H' a l md nr Ed L Ks ∧ TlL H' me ks ∧ (H' rw_ = some (.lst ys) ∧ RowL H' ys ps) ∧ RwL H' mr qs ∧ TupI H' s S ∧ H' so = some (.lst (os.map V.int)) ∧ NxP Ed L fst j ps i qs ∧ ∀ q ∈ (os.take m).map (fun k => (more S k, !b)), q ∈ qs) ⟨mr, qs, _, _, rfl, fl, tm, ⟨hrw, rl⟩, rm, hs, hso, nx, fun q h => by simp at h⟩ (fun m σ H' _ ⟨_, _, _, _, _, _, _, _, _, _, z, _⟩ => SqL.of z) ?_ ?_
        · rintro m x σ H8 H9 hm ⟨mr, qs, y12, y13, rfl, fl, tm, ⟨hrw, rl⟩, rm, hs, hso, nx, inn⟩ ⟨rfl, ex⟩
          rw [List.length_map] at hm
          rw [List.getElem?_map, List.getElem?_eq_getElem hm] at ex
          cases ex
          have ek : os[m]? = some os[m] := List.getElem?_eq_getElem hm
          generalize os[m] = k at ek
          have gl := g.len_le
          refine ⟨_, rfl, _, rfl, small (Nat.le_of_ble_eq_true rfl), fun T hT => ?_⟩
          have sT := same_upd (o := .tup [.int k]) hT
          refine cat_one (sT _ _ hs) upd_same (by omega) fun a1 H10 s10 ha1 => ?_
          refine ⟨a1, S ++ [k], rfl, .inr (SqT.of ha1), fun p1 hp1 => ⟨p1, _, rfl, .inl ⟨SqL.of upd_same, fun t1 ht1 => ?_⟩⟩⟩
          refine ⟨_, rfl, _, rfl, small (Nat.le_of_ble_eq_true rfl), fun th hth => ?_⟩
          have s11 := same_upd (o := .lst ((srt (S ++ [k])).map V.int)) hp1
          have s12 := same_upd (o := .tup ((srt (S ++ [k])).map V.int)) ht1
          have s13 := same_upd (o := .tup [.ref t1, .bl (!b)]) hth
          have s14 := (((sT.trans s10).trans s11).trans s12).trans s13
          replace fl := fl.same s14
          replace tm := tm.same s14
          replace hrw := s14 _ _ hrw
          replace rl := RowL.keep rl fun b ys q => s14 _ _ q
          replace rm := rm.same s14
          replace hs : TupI _ s S := s14 _ _ hs
          replace hso := s14 _ _ hso
          have hk : NKAt (upd (upd (upd H10 p1 (.lst ((srt (S ++ [k])).map V.int))) t1 (.tup ((srt (S ++ [k])).map V.int))) th (.tup [.ref t1, .bl (!b)])) (more S k, !b) th := ⟨t1, upd_same, s13 _ _ upd_same⟩
          generalize upd (upd (upd H10 p1 (.lst ((srt (S ++ [k])).map V.int))) t1 (.tup ((srt (S ++ [k])).map V.int))) th (.tup [.ref t1, .bl (!b)]) = H11 at fl tm hrw rl rm hs hso hk
          clear s14 s13 s12 s11 s10 sT ht1 hp1 ha1
          obtain ⟨zs, hmr, rz⟩ := rm.ex
          have ql : qs.length ≤ 128 := pairs_le n6 nx.nd fun q hq => lev_good wtr (nx.snd q hq)
          have zl := row_len rz
          refine ⟨_, rfl, _, rfl, _, rfl, dP (more S k, !b), qs.map dP, dp_P hk, dp_rows (SqL.of hmr) rz, (sh_dP _).of, (sh_dPs _).of, _, rfl, ?_⟩
          rw [any_eqv eqv_dP]
          have kin : (more S k, !b) ∈ os.map (fun k => (more S k, !b)) := List.mem_map.mpr ⟨k, List.mem_of_getElem? ek, rfl⟩
          refine ite2 (fun c => ?_) (fun c => ?_)
          · have hq : (more S k, !b) ∉ qs := by simpa using c
            refine ⟨_, rfl, small (Nat.le_of_ble_eq_true rfl), fun z hz => ⟨mr, z, zs, _, rfl, rfl, same_upd hz _ _ hmr, upd_same, Nat.le_trans (show zs.length + 1 ≤ 129 by omega) (by decide), fun mr2 hmr2 => ?_⟩⟩
            have s15 := (same_upd (o := .lst [.ref th]) hz).trans (same_upd (o := .lst (zs ++ [.ref th])) hmr2)
            refine ⟨mr2, qs ++ [(more S k, !b)], _, _, rfl, fl.same s15, tm.same s15, ⟨s15 _ _ hrw, RowL.keep rl fun b ys q => s15 _ _ q⟩, ⟨_, upd_same, (RowL.keep rz fun b ys q => s15 _ _ q).snoc ⟨th, rfl, hk.keep fun b ys q => s15 _ _ q⟩⟩, s15 _ _ hs, s15 _ _ hso, ⟨nd_snoc nx.nd hq, fun q hq => ?_, fun p hp q hq => List.mem_append_left _ (nx.cmp p hp q hq)⟩, fun q hq => ?_⟩
            · rcases List.mem_append.mp hq with z | z
              · exact nx.snd q z
              · rw [List.mem_singleton.mp z]
                exact nxl _ kin
            · rw [take_push ek, List.map_append] at hq
              rcases List.mem_append.mp hq with z | z
              · exact List.mem_append_left _ (inn q z)
              · exact List.mem_append_right _ z
          · have hq : (more S k, !b) ∈ qs := by simpa using c
            refine ⟨small (Nat.zero_le _), fun z hz => ⟨mr, z, zs, _, rfl, rfl, same_upd hz _ _ hmr, upd_same, Nat.le_trans (show zs.length + 0 ≤ 129 by omega) (by decide), fun mr2 hmr2 => ?_⟩⟩
            have s15 := (same_upd (o := .lst []) hz).trans (same_upd (o := .lst (zs ++ [])) hmr2)
            refine ⟨mr2, qs, _, _, rfl, fl.same s15, tm.same s15, ⟨s15 _ _ hrw, RowL.keep rl fun b ys q => s15 _ _ q⟩, ⟨_, upd_same, RowL.nilR (RowL.keep rz fun b ys q => s15 _ _ q)⟩, s15 _ _ hs, s15 _ _ hso, nx, fun q hq2 => ?_⟩
            rw [take_push ek, List.map_append] at hq2
            rcases List.mem_append.mp hq2 with z | z
            · exact inn q z
            · rw [List.mem_singleton.mp z]
              exact hq
        · rintro σ H8 ⟨mr, qs, y12, y13, rfl, fl, tm, ⟨hrw, rl⟩, rm, hs, hso, nx, inn⟩
          rw [List.length_map, List.take_length] at inn
          refine ⟨me, mr, ks, qs, _, _, _, _, _, rfl, fl, tm, ⟨hrw, rl⟩, mi, rm, nx.nd, nx.snd, fun p hp q hq => ?_⟩
          rw [take_push hps] at hp
          rcases List.mem_append.mp hp with z | z
          · exact nx.cmp p z q hq
          · rw [List.mem_singleton.mp z, en] at hq
            exact inn q hq
    · rintro σ H5 ⟨me, mr, ks, qs, y9, y10, y11, y12, y13, rfl, fl, tm, ⟨hrw, rl⟩, mi, rm, nx⟩
      rw [row_len rl] at mi nx
      refine ⟨_, rfl, me, mr, ks, qs, _, _, _, _, _, _, _, rfl, fl, tm, rm, mi.next fun p hp => (lv p).mpr hp, fun q => ⟨nx.snd q, fun hq => ?_⟩⟩
      obtain ⟨p, hp, hq⟩ := (lev_succ _ _).mp hq
      exact nx.cmp p (by rw [List.take_length]; exact (lv p).mpr hp) q hq
  · rintro σ H2 ⟨me, rw_, ks, ps, y7, y8, y9, y10, y11, y12, y13, rfl, fl, tm, rl, mi, lv⟩
    obtain ⟨xs, hme, tl⟩ := tm.ex
    refine ⟨_, rfl, me, xs, ks, rfl, SqL.of hme, tl, mi.ok, fun p2 zs Ts hp2 tl2 pm pw => ?_⟩
    refine q _ p2 Ts (fl.base.trans (same_upd hp2)) ⟨zs, upd_same, TL.same (same_upd hp2) tl2⟩ (pm.nodup_iff.mpr mi.nd) pw fun T => ?_
    rw [pm.mem_iff]
    refine ⟨fun h => mi.snd T h, fun h => mi.cmp T ?_ h.1 h.2⟩
    have := (h.1.good wtr).len_le
    omega
end
end Ck

namespace Ck
open PySem PySem.Spec PyProof.Rows L2
def rLen (K : PySem.W.Frag) : List V → Hp → VK → Prop := fun xs H Q => ∃ p ys, xs = [.ref p] ∧ (SqL K H p ys ∨ SqT K H p ys) ∧ Q (.int ys.length) H
theorem call_lenK {X : Cx} : CallR X (.builtin "len") (rLen X.K) := call_len_seq
structure KyP (Ks : List (List Int)) (D : Addr) (H1 : Hp) (i : Nat) (H : Hp) : Prop where
  same : Same H1 H
  out : ∃ zs, H D = some (.lst zs) ∧ TL H zs (Ks.take i)
section
variable {P : Program} {w : World} {K : PySem.W.Frag} {mg : Str → Option Value} {base : Heap} {f : Addr} {fd : FuncData}
def spLaw (K : PySem.W.Frag) : Sp := fun vs H Q _ => ∃ (sc : Addr) (ss : List Int), vs = [.ref sc] ∧ SqL K H sc (ss.map V.int) ∧ ∀ H', Same H H' → Q (.bl true) H'
theorem sc_law : FnScope ["_law_script", "_law_row", "_law_web_here", "_law_laying_here", "_law_is_first", "_law_can", "_law_found", "_law_one"] ["_law_script"] (defScope (topS 39)) := ⟨rfl, rfl, rfl, by decide +kernel, rfl, by decide +kernel, by decide +kernel⟩
theorem ok_law (B : Blt mg) (F : FnP K "law" 39 f fd) (C_law_kind : Cal P w K mg base 9 "_law_kind" ["_law_row"] (spKind K)) (C_law_near : CNear P w K mg base) (C_law_left : CLL P w K mg base)
    (Ckeeper_plan : Cal P w K mg base 12 "keeper_plan" ["web", "laying", "is_first"] spPlan) (Ckeeper_wins : Cal P w K mg base 12 "keeper_wins" ["web", "laying", "is_first"] spWins) (Cshows_plan : Cal P w K mg base 12 "shows_plan" ["web", "laying", "is_first", "value"] spShow)
    (C_law_follows : Cal P w K mg base 2 "_law_follows" ["_law_web_here", "_law_laying_here", "_law_is_first", "_law_moves"] spFollows) : FnOk P w K mg base CX0 13 f fd ["_law_script"] (spLaw K) := by
  refine F.ok sc_law (fun vs H Q E h => ?_) (fun cdv A outer s H vs Q E hr h => ?_)
  · obtain ⟨sc, ss, rfl, _⟩ := h
    rfl
  obtain ⟨sc, ss, rfl, hsc, q⟩ := h
  refine ⟨_, PSs.nox (pss_cons (ps_set (i := 1) sc_law.nd rfl (.inl rfl) (pe_lst (pa_cons (pv 0) (pa_cons pe_int (pa_cons pe_int (pa_cons pe_int pa_nil))))))
    (pss_cons (ps_asg (pe_cal C_law_kind hr (pa_cons (pv 1) pa_nil)) (pg_tup (by rfl) (pgs_cons (pg_name (i := 2) sc_law.nd rfl (.inl rfl)) (pgs_cons (pg_name (i := 3) sc_law.nd rfl (.inl rfl)) pgs_nil))))
    (pss_cons (ps_for PassesOwn.never rfl (pi_list (pe_lst (pa_cons pe_bl (pa_cons pe_bl pa_nil)))) (pg_name (i := 4) sc_law.nd rfl (.inl rfl))
      (pss_cons (ps_set (i := 5) sc_law.nd rfl (.inl rfl) (pe_cmpR op_eq (pe_cal C_law_left hr (pa_cons (pe_cal C_law_near hr (pa_cons (pv 2) pa_nil)) (pa_cons (pv 3) (pa_cons (pv 4) (pa_cons pe_nnew pa_nil))))) pe_int (nomark _)))
      (pss_cons (ps_set (i := 6) sc_law.nd rfl (.inl rfl) (pe_cal Ckeeper_plan hr (pa_cons (pv 2) (pa_cons (pv 3) (pa_cons (pv 4) pa_nil)))))
      (pss_cons (ps_if (PW.pt (pw_or (pt_cmpR op_ne (pe_cmpR op_notN (pv 6) pe_non (nomark _)) (pv 5) (nomark _)) (pw_or1 (pt_cmpR op_ne (pe_cal Ckeeper_wins hr (pa_cons (pv 2) (pa_cons (pv 3) (pa_cons (pv 4) pa_nil)))) (pv 5) (nomark _)))))
        (pss_one (ps_ret pe_bl))
        pss_nil)
      (pss_cons (ps_if (pt_cmpR op_eq (pe_cal Cshows_plan hr (pa_cons (pv 2) (pa_cons (pv 3) (pa_cons (pv 4) (pa_cons pe_non pa_nil))))) (pv 5) (nomark _))
        (pss_one (ps_ret pe_bl))
        pss_nil)
      (pss_cons (ps_if (pt_cmpR op_notBl (pe_cal Cshows_plan hr (pa_cons (pv 2) (pa_cons (pv 3) (pa_cons (pv 4) (pa_cons (pv 6) pa_nil))))) pe_bl (nomark _))
        (pss_one (ps_ret pe_bl))
        pss_nil)
      (pss_one (ps_if (pt_cmpR op_notN (pv 6) pe_non (nomark _))
        (pss_cons (ps_if (pt_not (pt_val (pe_callB call_isi (by rfl) B.isi boot_isinstance (pa_cons (pv 6) (pa_cons (pe_bltn (v := .ty "tuple") (by rfl) B.tup boot_tuple rfl) pa_nil)))))
          (pss_one (ps_ret pe_bl))
          pss_nil)
        (pss_cons (ps_if (pt_cmpR (op_neD hr.units) (pe_lc (own := [("_law_one", 7)]) (g := gName 7) (by rfl) sc_law.nd (pi_tup (pv 6)) (blkOk_by (own := [("_law_one", 7)]) (N := ["_law_script", "_law_row", "_law_web_here", "_law_laying_here", "_law_is_first", "_law_can", "_law_found", "_law_one"]) (sc := defScope (topS 39)) (by decide +kernel)) (fun _ _ _ _ _ => (pg_name (i := 7) sc_law.nd rfl (by first | exact .inl rfl | exact .inr rfl))) (fun _ _ _ _ _ => (pts_one (PW.pt (pw_or (pt_not (pt_val (pe_callB (r := rIsi K) call_isi (by rfl) B.isi boot_isinstance (pa_cons (pv 7) (pa_cons (pe_bltn (v := .ty "tuple") (by rfl) B.tup boot_tuple rfl) pa_nil))))) (pw_or1 (pt_cmpR op_ne (pe_callB (r := rLen K) call_lenK (by rfl) B.len boot_len (pa_cons (pv 7) pa_nil)) pe_int (nomark _))))))) (fun _ _ _ _ _ => (pv 7))) (pe_lst pa_nil) (nomark _))
          (pss_one (ps_ret pe_bl))
          pss_nil)
        (pss_one (ps_if (pt_cmpR (op_neD hr.units) (pe_cal C_law_follows hr (pa_cons (pv 2) (pa_cons (pv 3) (pa_cons (pv 4) (pa_cons (pe_callTy (call_dictF rfl hr.units) (by rfl) B.dict boot_dict (pa_cons (pv 6) pa_nil)) pa_nil))))) (pe_lc (own := [("_law_one", 7)]) (g := gName 7) (by rfl) sc_law.nd (pi_tup (pv 6)) (blkOk_by (own := [("_law_one", 7)]) (N := ["_law_script", "_law_row", "_law_web_here", "_law_laying_here", "_law_is_first", "_law_can", "_law_found", "_law_one"]) (sc := defScope (topS 39)) (by decide +kernel)) (fun _ _ _ _ _ => (pg_name (i := 7) sc_law.nd rfl (by first | exact .inl rfl | exact .inr rfl))) (fun _ _ _ _ _ => pts_nil) (fun _ _ _ _ _ => (pe_ix (r := rIxT K) ix_tup (pv 7) pe_int (fun _ _ => rfl)))) (nomark _))
          (pss_one (ps_ret pe_bl))
          pss_nil))))
        pss_nil))))))))
    (pss_one (ps_ret pe_bl))))), ?_⟩
  refine ⟨_, rfl, small (Nat.le_of_ble_eq_true rfl), fun ro hro => ?_⟩
  have s0 := same_upd (o := .lst [.ref sc, .int 0, .int 8939, .int 0]) hro
  have R : RowAt K (upd H ro (.lst [.ref sc, .int 0, .int 8939, .int 0])) ro sc ss := ⟨⟨0, 8939, 0, upd_same⟩, sql_same hsc s0, by
    rcases hsc with (h | ⟨o, h⟩) | h
    · exact .inl (ne_of_none h hro)
    · exact .inl (ne_of_none h hro)
    · exact .inr (.inr h)⟩
  refine ⟨_, rfl, ro, sc, ss, rfl, R, fun H1 t a l Ed L sb ht p => ?_⟩
  have s1 : Same H H1 := SameB.of_new s0 hro (fun b o n e => sb b o n e) |> fun z => z
  refine ⟨t, _, rfl, SqT.of ht, rfl, _, _, rfl, _, _, rfl, rfl, ?_⟩
  refine ⟨small (Nat.le_of_ble_eq_true rfl), fun fl hfl => ⟨fl, rfl, ⟨_, SqL.of upd_same⟩, ?_⟩⟩
  have s2 := same_upd (o := .lst [.bl false, .bl true]) hfl
  have n6 := p.n6
  refine for_it (walk_list (xs := [.bl false, .bl true])) (fun i σ H' => ∃ y4 y5 y6, σ = [some (.ref sc), some (.ref ro), some (.ref a), some (.ref l), y4, y5, y6, none] ∧ Same H H' ∧ Play H' a l Ed L ∧ H' fl = some (.lst [.bl false, .bl true])) ⟨_, _, _, rfl, s1.trans s2, p.same s2, upd_same⟩ (fun i σ H' _ ⟨_, _, _, _, _, _, z⟩ => SqL.of z) ?_ ?_
  · rintro i x σ H2 H3 hi ⟨y4, y5, y6, rfl, s3, p, hfl⟩ ⟨rfl, ex⟩
    obtain ⟨b, rfl⟩ : ∃ b, x = V.bl b := by
      have := List.mem_of_getElem? ex
      simp at this
      rcases this with z | z
      · exact ⟨_, z⟩
      · exact ⟨_, z⟩
    refine ⟨_, rfl, a, L.length, Ed, rfl, p.web, n6, p.elen, fun H4 nr rs s4 _ _ NR => ⟨_, rfl, _, rfl, fun kn hkn => ?_⟩⟩
    have s5 := same_upd (o := NDo P w kn []) hkn
    refine ⟨nr, l, kn, Ed, L, [], b, rfl, NR.near.same s5, by rw [beh_nil p.c01]; exact s5 _ _ (s4 _ _ p.lay), p.ok, n6, Good.nil _, by omega, MemL.new, fun H5 v sb5 m5 fv => ?_⟩
    have s35 : Same H3 H5 := SameB.of_new s4 (none_of s4 hkn) fun b' o n e => sb5 b' o n (s5 _ _ e)
    refine ⟨rfl, ?_⟩
    rw [fit0 fv]
    have p5 := p.same s35
    have hfl5 := s35 _ _ hfl
    replace s3 := s3.trans s35
    clear s35 sb5 m5 s5 NR s4
    refine ⟨_, rfl, _, rfl, _, rfl, a, l, Ed, L, b, rfl, p5, fun wf H6 s6 => ?_, fun wt => ?_⟩
    · rw [wf]
      refine ⟨_, rfl, rfl, _, rfl, rfl, _, rfl, ite2 (fun c => absurd c (by simp)) (fun _ => ?_)⟩
      refine ⟨_, rfl, _, rfl, _, rfl, a, l, Ed, L, b, rfl, p5.same s6, fun H7 s7 => ?_⟩
      refine ⟨_, rfl, rfl, _, rfl, ite2 (fun c => absurd c (by rw [wf]; simp)) (fun _ => ?_)⟩
      have p7 := (p5.same s6).same s7
      refine ⟨_, rfl, _, rfl, _, rfl, a, l, Ed, L, b, .non, rfl, p7, .inl ⟨rfl, fun H8 s8 => ?_⟩⟩
      refine ⟨_, rfl, rfl, _, rfl, ite2 (fun c => absurd c (by rw [wf]; simp)) (fun _ => ?_)⟩
      refine ⟨_, rfl, _, rfl, _, rfl, _, rfl, a, l, Ed, L, b, .non, rfl, p7.same s8, .inl ⟨rfl, fun H9 s9 => ?_⟩⟩
      refine ⟨_, _, rfl, rfl, _, rfl, ite2 (fun c => absurd c (by rw [wf]; simp)) (fun _ => ?_)⟩
      refine ⟨_, rfl, rfl, _, rfl, ite2 (fun c => absurd c (by simp)) (fun _ => ?_)⟩
      have s69 := ((s6.trans s7).trans s8).trans s9
      exact ⟨_, _, _, rfl, s3.trans s69, p5.same s69, s69 _ _ hfl5⟩
    · intro H6 pp Ks xs o s6 hp od pl nd up km
      rw [wt]
      have pa6 : PlanAt H6 pp o xs L.length Ks (mv Ed L) := ⟨hp, od, pl, nd, up, fun S hS => ((km S).mp hS).1.good wt, fun S hS => by
        have z := (km S).mp hS
        have m := mem_rdy (z.1.mv wt z.2)
        exact ⟨m.2.1, m.2.2⟩⟩
      have p6 := p5.same s6
      refine ⟨_, rfl, rfl, _, rfl, rfl, _, rfl, ite2 (fun c => absurd c (by simp)) (fun _ => ?_)⟩
      refine ⟨_, rfl, _, rfl, _, rfl, a, l, Ed, L, b, rfl, p6, fun H7 s7 => ?_⟩
      refine ⟨_, rfl, rfl, _, rfl, ite2 (fun c => absurd c (by rw [wt]; simp)) (fun _ => ?_)⟩
      have p7 := p6.same s7
      refine ⟨_, rfl, _, rfl, _, rfl, a, l, Ed, L, b, .non, rfl, p7, .inl ⟨rfl, fun H8 s8 => ?_⟩⟩
      refine ⟨_, rfl, rfl, _, rfl, ite2 (fun c => absurd c (by rw [wt]; simp)) (fun _ => ?_)⟩
      have pa8 := (pa6.same s7).same s8
      refine ⟨_, rfl, _, rfl, _, rfl, _, rfl, a, l, Ed, L, b, _, rfl, p7.same s8, .inr ⟨pp, o, xs, Ks, rfl, pa8, wt, km, fun H9 s9 => ?_⟩⟩
      refine ⟨_, _, rfl, rfl, _, rfl, ite2 (fun c => absurd c (by simp)) (fun _ => ?_)⟩
      refine ⟨_, rfl, rfl, _, rfl, ite2 (fun _ => ?_) (fun c => absurd (by simp) c)⟩
      have pa9 := pa8.same s9
      have s69 := ((s6.trans s7).trans s8).trans s9
      have p9 := p5.same s69
      have s39 := s3.trans s69
      have hfl9 := s69 _ _ hfl5
      clear s69 s6 s7 s8 s9 pa8 p7 p6 pa6 hp pl
      refine ⟨_, rfl, _, _, _, _, true, rfl, .ty _, .fTuple pa9.obj, kTT, _, rfl, iteF ?_⟩
      refine ⟨_, rfl, pp, rfl, ⟨_, sqt_frz pa9.obj⟩, fun D hD => ?_⟩
      refine lc_it (walk_tup (xs := xs)) (LcP H9 D (fun _ => [])) (LcP.start hD rfl) (fun i H1 _ p => sqt_frz (p.1 _ _ pa9.obj)) ?_ ?_
      · rintro i x H10 H11 hi lp ⟨rfl, ex⟩
        obtain ⟨q1, q2, S, rfl, hS, hq1, hq2⟩ := PL.get (pa9.same lp.1).pl ex
        refine ⟨rfl, ?_⟩
        refine ⟨_, rfl, _, _, _, _, true, rfl, .ty _, .base (.tup hq1), kTT, _, rfl, iteF ?_⟩
        exact ⟨_, rfl, q1, _, rfl, .inr (SqT.of hq1), rfl, _, rfl, iteF (LcP.skip lp rfl)⟩
      rintro H10 lp
      refine ⟨small (Nat.zero_le _), fun Z hZ => ⟨_, _, dp_nil (SqL.of (same_upd hZ _ _ lp.2)), dp_nil (SqL.of upd_same), (sh_ints []).of, (sh_ints []).of, _, rfl, iteF ?_⟩⟩
      have sA := lp.1.trans (same_upd (o := .lst []) hZ)
      have paA := pa9.same sA
      have pA := p9.same sA
      have hflA := sA _ _ hfl9
      have s3A := s39.trans sA
      generalize upd H10 Z (.lst []) = HA at paA pA hflA s3A
      have kn1 : ((Ks.map fun S => (S, pmv Ed L S)).map (·.1)).Nodup := by
        rw [List.map_map, show (Prod.fst ∘ fun S => (S, pmv Ed L S)) = id from rfl, List.map_id]
        exact nd
      refine ⟨_, rfl, _, rfl, _, rfl, _, rfl, pp, o, xs, _, rfl, paA.obj, paA.od, paA.pl, kn1, fun md hmd => ?_⟩
      rw [dict_tab]
      have sM := same_upd (o := .dT (tab (pmv Ed L) Ks)) hmd
      refine ⟨a, l, md, Ed, L, b, Ks, rfl, pA.same sM, wt, upd_same, km, fun HB p9 Ts sB tB ndB upB mB => ?_⟩
      have sMB := sM.trans sB
      have paB := paA.same sMB
      have pB := pA.same sMB
      have hflB := sMB _ _ hflA
      have s3B := s3A.trans sMB
      refine ⟨_, rfl, pp, rfl, ⟨_, sqt_frz paB.obj⟩, fun D hD => ?_⟩
      refine lc_it (walk_tup (xs := xs)) (KyP Ks D HB) ⟨same_upd hD, [], upd_same, .nil⟩ (fun i H1 _ p => sqt_frz (p.same _ _ paB.obj)) ?_ ?_
      · rintro i x H10 H11 hi kp ⟨rfl, ex⟩
        obtain ⟨q1, q2, S, rfl, hS, hq1, hq2⟩ := PL.get (paB.same kp.same).pl ex
        refine ⟨rfl, ?_⟩
        unfold tYes
        refine iteT ?_
        refine ⟨_, rfl, q1, _, 0, _, rfl, rfl, SqT.of hq1, rfl, ?_⟩
        obtain ⟨zs, g1, g2⟩ := kp.out
        have kl : Ks.length ≤ 64 := states_le n6 paB.nd paB.good
        have zl : zs.length ≤ 64 := by
          rw [TL.len g2, List.length_take]
          omega
        have k4 := upd_tups (H := H11) (o := .lst (zs ++ [.ref q2])) g1 (fun ys z => nomatch z)
        refine ⟨zs, g1, small1000 (by omega), outN kp.same hD, _, upd_same, ?_⟩
        rw [take_push hS]
        exact (TL.keep g2 k4).snoc ⟨q2, rfl, k4 _ _ hq2⟩
      rintro H10 kp
      obtain ⟨zs, g1, g2⟩ := kp.out
      rw [PL.len paB.pl, List.take_length] at g2
      obtain ⟨ts, t1, t2⟩ := (tB.same kp.same).ex
      refine ⟨_, _, dp_TL (SqL.of t1) t2, dp_TL (SqL.of g1) g2, (sh_dTs _).of, (sh_dTs _).of, _, rfl, ?_⟩
      have e : Ts = Ks := lle_uniq (perm_of_mem ndB nd fun T => by rw [mB T, km T]) upB up
      rw [eqv_dTs, decide_eq_true e]
      exact iteF ⟨_, _, _, rfl, s3B.trans kp.same, pB.same kp.same, kp.same _ _ hflB⟩
  · rintro σ H2 ⟨y4, y5, y6, rfl, s3, p, hfl⟩
    exact q H2 s3
end
end Ck

namespace Ck
open PySem PySem.Spec PyProof.Rows L2
def dd (i : Nat) (x : Str) : He.DefD := ⟨(x, none), x, x, defArgs (topS i), defBody (topS i), defScope (topS i), [], []⟩
def fn : List He.DefD := ([dd 6 "is_in", dd 9 "is_edge", dd 10 "need_web", dd 11 "need_full", dd 12 "need_both", dd 13 "neighbours_in", dd 14 "heads_in", dd 16 "behind_in"] : List He.DefD) ++ ([dd 17 "ready_in", dd 18 "more", dd 20 "need_play", dd 21 "left_from", dd 22 "keeper_wins", dd 23 "keeper_plan", dd 24 "is_table", dd 25 "shows_plan"] : List He.DefD) ++ ([dd 27 "_law_taken", dd 28 "_law_order", dd 29 "_law_web", dd 30 "_law_near", dd 31 "_law_laying", dd 32 "_law_full", dd 33 "_law_take", dd 34 "_law_heads"] : List He.DefD) ++ ([dd 35 "_law_left", dd 36 "_law_kind", dd 37 "_law_behind", dd 38 "_law_follows", dd 39 "law"] : List He.DefD)
def fa : List He.Fa := ([.glo "is_in", .glo "is_edge", .glo "need_web", .glo "need_full", .glo "need_both", .glo "neighbours_in", .glo "heads_in", .glo "behind_in"] : List He.Fa) ++ ([.glo "ready_in", .glo "more", .glo "need_play", .glo "left_from", .glo "keeper_wins", .glo "keeper_plan", .glo "is_table", .glo "shows_plan"] : List He.Fa) ++ ([.glo "_law_taken", .glo "_law_order", .glo "_law_web", .glo "_law_near", .glo "_law_laying", .glo "_law_full", .glo "_law_take", .glo "_law_heads"] : List He.Fa) ++ ([.glo "_law_left", .glo "_law_kind", .glo "_law_behind", .glo "_law_follows", .glo "law", .free "isinstance", .free "tuple", .free "int"] : List He.Fa) ++ ([.free "bool", .free "len", .free "enumerate", .free "sorted", .free "min", .free "max", .free "range", .free "list"] : List He.Fa) ++ ([.free "set", .free "dict", .int "MOST_PLACES" 9] : List He.Fa)
def names : List PySem.Str := ([("CoinError" : PySem.Str), ("BadWeb" : PySem.Str), ("BadLaying" : PySem.Str), ("BadFlag" : PySem.Str), ("is_in" : PySem.Str), ("is_edge" : PySem.Str), ("need_web" : PySem.Str), ("need_full" : PySem.Str)] : List PySem.Str) ++ ([("need_both" : PySem.Str), ("neighbours_in" : PySem.Str), ("heads_in" : PySem.Str), ("behind_in" : PySem.Str), ("ready_in" : PySem.Str), ("more" : PySem.Str), ("need_play" : PySem.Str), ("left_from" : PySem.Str)] : List PySem.Str) ++ ([("keeper_wins" : PySem.Str), ("keeper_plan" : PySem.Str), ("is_table" : PySem.Str), ("shows_plan" : PySem.Str), ("_law_taken" : PySem.Str), ("_law_order" : PySem.Str), ("_law_web" : PySem.Str), ("_law_near" : PySem.Str)] : List PySem.Str) ++ ([("_law_laying" : PySem.Str), ("_law_full" : PySem.Str), ("_law_take" : PySem.Str), ("_law_heads" : PySem.Str), ("_law_left" : PySem.Str), ("_law_kind" : PySem.Str), ("_law_behind" : PySem.Str), ("_law_follows" : PySem.Str)] : List PySem.Str) ++ ([("MOST_PLACES" : PySem.Str)] : List PySem.Str)
abbrev Rr : PySem.W.OpenRow := PySem.W.OpenLaw.row PySem.Challenge.rw_cointakes_k39_whole_plans_of_keepers
abbrev hk : PySem.W.Hook := He.hookD 4 fa fn
def ob (s : PySem.W.SharedT) : He.AlD := He.obsDG 4 fa fn (HandSHeadRun.getT s)
theorem ob_eq (s : PySem.W.SharedT) : ob s = hk.obs s.abs := He.obsDG_eq (HandSHeadRun.getT_eq s)
theorem run (w : World) : HandSHeadRun.RunEq Rr (PySem.W.view Rr.prog [39]) hk ob 6000 names w := by
  intro os
  kernel_rfl
theorem facts {P : Program} {w : World} {K : PySem.W.Frag} {h : Heap} {mg : Str → Option Value} {f : Addr} (X : K.In h) (G : h.Ns mainGlobals mg) (hfa : mg ("law" : Str) = some (.ref f)) (c : He.SaysD fa fn K) :
    ∃ fd : FuncData, (∀ (s : Shared) (v : Value), BindsTo s fd ⟨[v], []⟩ [("_law_script", v)]) ∧ ∀ base : Heap, K.In base → base.Ns mainGlobals mg → FnOk P w K mg base CX0 13 f fd ["_law_script"] (spLaw K) := by
  obtain ⟨d_is_in, F_is_in⟩ := c.def_ 0 (d := dd 6 "is_in") rfl
  have g_is_in := He.glo_ok X G (c.fact 0 (f := .glo "is_in") rfl)
  have b_is_in : Binds K d_is_in ["value", "least", "most"] [] := F_is_in.bindsN fun _ _ _ _ _ _ us hl => match us, hl with | [_, _, _], _ => rfl
  obtain ⟨d_is_edge, F_is_edge⟩ := c.def_ 1 (d := dd 9 "is_edge") rfl
  have g_is_edge := He.glo_ok X G (c.fact 1 (f := .glo "is_edge") rfl)
  have b_is_edge : Binds K d_is_edge ["value", "many"] [] := F_is_edge.bindsN fun _ _ _ _ _ _ us hl => match us, hl with | [_, _], _ => rfl
  obtain ⟨d_need_web, F_need_web⟩ := c.def_ 2 (d := dd 10 "need_web") rfl
  have g_need_web := He.glo_ok X G (c.fact 2 (f := .glo "need_web") rfl)
  have b_need_web : Binds K d_need_web ["web"] [] := F_need_web.bindsN fun _ _ _ _ _ _ us hl => match us, hl with | [_], _ => rfl
  obtain ⟨d_need_full, F_need_full⟩ := c.def_ 3 (d := dd 11 "need_full") rfl
  have g_need_full := He.glo_ok X G (c.fact 3 (f := .glo "need_full") rfl)
  have b_need_full : Binds K d_need_full ["web", "laying"] [] := F_need_full.bindsN fun _ _ _ _ _ _ us hl => match us, hl with | [_, _], _ => rfl
  obtain ⟨d_need_both, F_need_both⟩ := c.def_ 4 (d := dd 12 "need_both") rfl
  have g_need_both := He.glo_ok X G (c.fact 4 (f := .glo "need_both") rfl)
  have b_need_both : Binds K d_need_both ["web", "laying"] [] := F_need_both.bindsN fun _ _ _ _ _ _ us hl => match us, hl with | [_, _], _ => rfl
  obtain ⟨d_neighbours_in, F_neighbours_in⟩ := c.def_ 5 (d := dd 13 "neighbours_in") rfl
  have g_neighbours_in := He.glo_ok X G (c.fact 5 (f := .glo "neighbours_in") rfl)
  have b_neighbours_in : Binds K d_neighbours_in ["web", "place"] [] := F_neighbours_in.bindsN fun _ _ _ _ _ _ us hl => match us, hl with | [_, _], _ => rfl
  obtain ⟨d_heads_in, F_heads_in⟩ := c.def_ 6 (d := dd 14 "heads_in") rfl
  have g_heads_in := He.glo_ok X G (c.fact 6 (f := .glo "heads_in") rfl)
  have b_heads_in : Binds K d_heads_in ["laying"] [] := F_heads_in.bindsN fun _ _ _ _ _ _ us hl => match us, hl with | [_], _ => rfl
  obtain ⟨d_behind_in, F_behind_in⟩ := c.def_ 7 (d := dd 16 "behind_in") rfl
  have g_behind_in := He.glo_ok X G (c.fact 7 (f := .glo "behind_in") rfl)
  have b_behind_in : Binds K d_behind_in ["web", "laying", "state"] [] := F_behind_in.bindsN fun _ _ _ _ _ _ us hl => match us, hl with | [_, _, _], _ => rfl
  obtain ⟨d_ready_in, F_ready_in⟩ := c.def_ 8 (d := dd 17 "ready_in") rfl
  have g_ready_in := He.glo_ok X G (c.fact 8 (f := .glo "ready_in") rfl)
  have b_ready_in : Binds K d_ready_in ["web", "laying", "state"] [] := F_ready_in.bindsN fun _ _ _ _ _ _ us hl => match us, hl with | [_, _, _], _ => rfl
  obtain ⟨d_more, F_more⟩ := c.def_ 9 (d := dd 18 "more") rfl
  have g_more := He.glo_ok X G (c.fact 9 (f := .glo "more") rfl)
  have b_more : Binds K d_more ["state", "place"] [] := F_more.bindsN fun _ _ _ _ _ _ us hl => match us, hl with | [_, _], _ => rfl
  obtain ⟨d_need_play, F_need_play⟩ := c.def_ 10 (d := dd 20 "need_play") rfl
  have g_need_play := He.glo_ok X G (c.fact 10 (f := .glo "need_play") rfl)
  have b_need_play : Binds K d_need_play ["web", "laying", "is_first"] [] := F_need_play.bindsN fun _ _ _ _ _ _ us hl => match us, hl with | [_, _, _], _ => rfl
  obtain ⟨d_left_from, F_left_from⟩ := c.def_ 11 (d := dd 21 "left_from") rfl
  have g_left_from := He.glo_ok X G (c.fact 11 (f := .glo "left_from") rfl)
  have b_left_from : Binds K d_left_from ["web", "laying", "state", "is_mine", "known"] [] := F_left_from.bindsN fun _ _ _ _ _ _ us hl => match us, hl with | [_, _, _, _, _], _ => rfl
  obtain ⟨d_keeper_wins, F_keeper_wins⟩ := c.def_ 12 (d := dd 22 "keeper_wins") rfl
  have g_keeper_wins := He.glo_ok X G (c.fact 12 (f := .glo "keeper_wins") rfl)
  have b_keeper_wins : Binds K d_keeper_wins ["web", "laying", "is_first"] [] := F_keeper_wins.bindsN fun _ _ _ _ _ _ us hl => match us, hl with | [_, _, _], _ => rfl
  obtain ⟨d_keeper_plan, F_keeper_plan⟩ := c.def_ 13 (d := dd 23 "keeper_plan") rfl
  have g_keeper_plan := He.glo_ok X G (c.fact 13 (f := .glo "keeper_plan") rfl)
  have b_keeper_plan : Binds K d_keeper_plan ["web", "laying", "is_first"] [] := F_keeper_plan.bindsN fun _ _ _ _ _ _ us hl => match us, hl with | [_, _, _], _ => rfl
  obtain ⟨d_is_table, F_is_table⟩ := c.def_ 14 (d := dd 24 "is_table") rfl
  have g_is_table := He.glo_ok X G (c.fact 14 (f := .glo "is_table") rfl)
  have b_is_table : Binds K d_is_table ["web", "value"] [] := F_is_table.bindsN fun _ _ _ _ _ _ us hl => match us, hl with | [_, _], _ => rfl
  obtain ⟨d_shows_plan, F_shows_plan⟩ := c.def_ 15 (d := dd 25 "shows_plan") rfl
  have g_shows_plan := He.glo_ok X G (c.fact 15 (f := .glo "shows_plan") rfl)
  have b_shows_plan : Binds K d_shows_plan ["web", "laying", "is_first", "value"] [] := F_shows_plan.bindsN fun _ _ _ _ _ _ us hl => match us, hl with | [_, _, _, _], _ => rfl
  obtain ⟨d__law_taken, F__law_taken⟩ := c.def_ 16 (d := dd 27 "_law_taken") rfl
  have g__law_taken := He.glo_ok X G (c.fact 16 (f := .glo "_law_taken") rfl)
  have b__law_taken : Binds K d__law_taken ["_law_row", "_law_many"] [] := F__law_taken.bindsN fun _ _ _ _ _ _ us hl => match us, hl with | [_, _], _ => rfl
  obtain ⟨d__law_order, F__law_order⟩ := c.def_ 17 (d := dd 28 "_law_order") rfl
  have g__law_order := He.glo_ok X G (c.fact 17 (f := .glo "_law_order") rfl)
  have b__law_order : Binds K d__law_order ["_law_row", "_law_many"] [] := F__law_order.bindsN fun _ _ _ _ _ _ us hl => match us, hl with | [_, _], _ => rfl
  obtain ⟨d__law_web, F__law_web⟩ := c.def_ 18 (d := dd 29 "_law_web") rfl
  have g__law_web := He.glo_ok X G (c.fact 18 (f := .glo "_law_web") rfl)
  have b__law_web : Binds K d__law_web ["_law_row", "_law_most"] [] := F__law_web.bindsN fun _ _ _ _ _ _ us hl => match us, hl with | [_, _], _ => rfl
  obtain ⟨d__law_near, F__law_near⟩ := c.def_ 19 (d := dd 30 "_law_near") rfl
  have g__law_near := He.glo_ok X G (c.fact 19 (f := .glo "_law_near") rfl)
  have b__law_near : Binds K d__law_near ["_law_web_here"] [] := F__law_near.bindsN fun _ _ _ _ _ _ us hl => match us, hl with | [_], _ => rfl
  obtain ⟨d__law_laying, F__law_laying⟩ := c.def_ 20 (d := dd 31 "_law_laying") rfl
  have g__law_laying := He.glo_ok X G (c.fact 20 (f := .glo "_law_laying") rfl)
  have b__law_laying : Binds K d__law_laying ["_law_web_here", "_law_order_here"] [] := F__law_laying.bindsN fun _ _ _ _ _ _ us hl => match us, hl with | [_, _], _ => rfl
  obtain ⟨d__law_full, F__law_full⟩ := c.def_ 21 (d := dd 32 "_law_full") rfl
  have g__law_full := He.glo_ok X G (c.fact 21 (f := .glo "_law_full") rfl)
  have b__law_full : Binds K d__law_full ["_law_row", "_law_web_here"] [] := F__law_full.bindsN fun _ _ _ _ _ _ us hl => match us, hl with | [_, _], _ => rfl
  obtain ⟨d__law_take, F__law_take⟩ := c.def_ 22 (d := dd 33 "_law_take") rfl
  have g__law_take := He.glo_ok X G (c.fact 22 (f := .glo "_law_take") rfl)
  have b__law_take : Binds K d__law_take ["_law_near_here", "_law_laying_here", "_law_place"] [] := F__law_take.bindsN fun _ _ _ _ _ _ us hl => match us, hl with | [_, _, _], _ => rfl
  obtain ⟨d__law_heads, F__law_heads⟩ := c.def_ 23 (d := dd 34 "_law_heads") rfl
  have g__law_heads := He.glo_ok X G (c.fact 23 (f := .glo "_law_heads") rfl)
  have b__law_heads : Binds K d__law_heads ["_law_laying_here"] [] := F__law_heads.bindsN fun _ _ _ _ _ _ us hl => match us, hl with | [_], _ => rfl
  obtain ⟨d__law_left, F__law_left⟩ := c.def_ 24 (d := dd 35 "_law_left") rfl
  have g__law_left := He.glo_ok X G (c.fact 24 (f := .glo "_law_left") rfl)
  have b__law_left : Binds K d__law_left ["_law_near_here", "_law_laying_here", "_law_is_mine", "_law_known"] [] := F__law_left.bindsN fun _ _ _ _ _ _ us hl => match us, hl with | [_, _, _, _], _ => rfl
  obtain ⟨d__law_kind, F__law_kind⟩ := c.def_ 25 (d := dd 36 "_law_kind") rfl
  have g__law_kind := He.glo_ok X G (c.fact 25 (f := .glo "_law_kind") rfl)
  have b__law_kind : Binds K d__law_kind ["_law_row"] [] := F__law_kind.bindsN fun _ _ _ _ _ _ us hl => match us, hl with | [_], _ => rfl
  obtain ⟨d__law_behind, F__law_behind⟩ := c.def_ 26 (d := dd 37 "_law_behind") rfl
  have g__law_behind := He.glo_ok X G (c.fact 26 (f := .glo "_law_behind") rfl)
  have b__law_behind : Binds K d__law_behind ["_law_near_here", "_law_laying_here", "_law_state"] [] := F__law_behind.bindsN fun _ _ _ _ _ _ us hl => match us, hl with | [_, _, _], _ => rfl
  obtain ⟨d__law_follows, F__law_follows⟩ := c.def_ 27 (d := dd 38 "_law_follows") rfl
  have g__law_follows := He.glo_ok X G (c.fact 27 (f := .glo "_law_follows") rfl)
  have b__law_follows : Binds K d__law_follows ["_law_web_here", "_law_laying_here", "_law_is_first", "_law_moves"] [] := F__law_follows.bindsN fun _ _ _ _ _ _ us hl => match us, hl with | [_, _, _, _], _ => rfl
  obtain ⟨d_law, F_law⟩ := c.def_ 28 (d := dd 39 "law") rfl
  have g_law := He.glo_ok X G (c.fact 28 (f := .glo "law") rfl)
  have B : Blt mg := { isi := He.free_ok X G (c.fact 29 (f := .free "isinstance") rfl), tup := He.free_ok X G (c.fact 30 (f := .free "tuple") rfl), int := He.free_ok X G (c.fact 31 (f := .free "int") rfl), bool := He.free_ok X G (c.fact 32 (f := .free "bool") rfl), len := He.free_ok X G (c.fact 33 (f := .free "len") rfl), enum := He.free_ok X G (c.fact 34 (f := .free "enumerate") rfl), sorted := He.free_ok X G (c.fact 35 (f := .free "sorted") rfl), min := He.free_ok X G (c.fact 36 (f := .free "min") rfl), max := He.free_ok X G (c.fact 37 (f := .free "max") rfl), range := He.free_ok X G (c.fact 38 (f := .free "range") rfl), list := He.free_ok X G (c.fact 39 (f := .free "list") rfl), set := He.free_ok X G (c.fact 40 (f := .free "set") rfl), dict := He.free_ok X G (c.fact 41 (f := .free "dict") rfl) }
  obtain ⟨t0, hM⟩ := He.int_ok X G (c.fact 42 (f := .int "MOST_PLACES" 9) rfl)
  have e := hfa.symm.trans g_law
  cases e
  have bb := FunD.bindsA (ps := ["_law_script"]) F_law fun _ _ _ _ _ _ us hl => match us, hl with | [_], _ => rfl
  refine ⟨d_law, fun s v => bb s [v] rfl, fun base _ _ => ?_⟩
  have C_is_in : Cal P w K mg base 1 "is_in" ["value", "least", "most"] spIsIn := ⟨_, d_is_in, ok_is_in B F_is_in, g_is_in, F_is_in.kp, b_is_in⟩
  have C_is_edge : Cal P w K mg base 2 "is_edge" ["value", "many"] spIsEdge := ⟨_, d_is_edge, ok_is_edge B F_is_edge C_is_in, g_is_edge, F_is_edge.kp, b_is_edge⟩
  have C_need_web : Cal P w K mg base 3 "need_web" ["web"] spNeedWeb := ⟨_, d_need_web, ok_need_web B hM F_need_web C_is_in C_is_edge, g_need_web, F_need_web.kp, b_need_web⟩
  have C_need_full : Cal P w K mg base 3 "need_full" ["web", "laying"] spNeedFull := ⟨_, d_need_full, ok_need_full B F_need_full C_is_in, g_need_full, F_need_full.kp, b_need_full⟩
  have C_need_both : Cal P w K mg base 4 "need_both" ["web", "laying"] spNeedBoth := ⟨_, d_need_both, ok_need_both F_need_both C_need_web C_need_full, g_need_both, F_need_both.kp, b_need_both⟩
  have C_need_play : Cal P w K mg base 5 "need_play" ["web", "laying", "is_first"] spNeedPlay := ⟨_, d_need_play, ok_need_play B F_need_play C_need_both, g_need_play, F_need_play.kp, b_need_play⟩
  have C_neighbours_in : Cal P w K mg base 1 "neighbours_in" ["web", "place"] spNb := ⟨_, d_neighbours_in, ok_neighbours_in B F_neighbours_in, g_neighbours_in, F_neighbours_in.kp, b_neighbours_in⟩
  have C_heads_in : Cal P w K mg base 1 "heads_in" ["laying"] spHeads := ⟨_, d_heads_in, ok_heads_in B F_heads_in, g_heads_in, F_heads_in.kp, b_heads_in⟩
  have C_behind_in : Cal P w K mg base 2 "behind_in" ["web", "laying", "state"] spBehind := ⟨_, d_behind_in, ok_behind_in B F_behind_in C_neighbours_in, g_behind_in, F_behind_in.kp, b_behind_in⟩
  have C_ready_in : Cal P w K mg base 3 "ready_in" ["web", "laying", "state"] spReady := ⟨_, d_ready_in, ok_ready_in F_ready_in C_heads_in C_behind_in, g_ready_in, F_ready_in.kp, b_ready_in⟩
  have C_more : Cal P w K mg base 1 "more" ["state", "place"] spMore := ⟨_, d_more, ok_more B F_more, g_more, F_more.kp, b_more⟩
  have C_left_from : Cal P w K mg base 11 "left_from" ["web", "laying", "state", "is_mine", "known"] (spLeft P w 7) := ⟨_, d_left_from, ok_left B F_left_from C_ready_in C_more g_left_from F_left_from.kp b_left_from 7, g_left_from, F_left_from.kp, b_left_from⟩
  have C_keeper_wins : Cal P w K mg base 12 "keeper_wins" ["web", "laying", "is_first"] spWins := ⟨_, d_keeper_wins, ok_wins F_keeper_wins C_need_play C_left_from, g_keeper_wins, F_keeper_wins.kp, b_keeper_wins⟩
  have C_keeper_plan : Cal P w K mg base 12 "keeper_plan" ["web", "laying", "is_first"] spPlan := ⟨_, d_keeper_plan, ok_plan B F_keeper_plan C_need_play C_left_from C_ready_in C_more, g_keeper_plan, F_keeper_plan.kp, b_keeper_plan⟩
  have C_is_table : Cal P w K mg base 2 "is_table" ["web", "value"] spTab := ⟨_, d_is_table, ok_table B F_is_table C_is_in, g_is_table, F_is_table.kp, b_is_table⟩
  have C_shows_plan : Cal P w K mg base 12 "shows_plan" ["web", "laying", "is_first", "value"] spShow := ⟨_, d_shows_plan, ok_show B F_shows_plan C_need_play C_left_from C_ready_in C_more C_is_table, g_shows_plan, F_shows_plan.kp, b_shows_plan⟩
  have C__law_taken : Cal P w K mg base 1 "_law_taken" ["_law_row", "_law_many"] (spTaken K) := ⟨_, d__law_taken, ok_taken B F__law_taken, g__law_taken, F__law_taken.kp, b__law_taken⟩
  have C__law_order : Cal P w K mg base 2 "_law_order" ["_law_row", "_law_many"] (spOrder K) := ⟨_, d__law_order, ok_order B F__law_order C__law_taken, g__law_order, F__law_order.kp, b__law_order⟩
  have C__law_web : Cal P w K mg base 3 "_law_web" ["_law_row", "_law_most"] (spWeb K) := ⟨_, d__law_web, ok_web B F__law_web C__law_taken C__law_order, g__law_web, F__law_web.kp, b__law_web⟩
  have C__law_near : Cal P w K mg base 1 "_law_near" ["_law_web_here"] spNear := ⟨_, d__law_near, ok_near B F__law_near, g__law_near, F__law_near.kp, b__law_near⟩
  have C__law_laying : Cal P w K mg base 2 "_law_laying" ["_law_web_here", "_law_order_here"] spLaying := ⟨_, d__law_laying, ok_laying B F__law_laying C__law_near, g__law_laying, F__law_laying.kp, b__law_laying⟩
  have C__law_full : Cal P w K mg base 3 "_law_full" ["_law_row", "_law_web_here"] (spFull K) := ⟨_, d__law_full, ok_full B F__law_full C__law_taken C__law_order C__law_laying, g__law_full, F__law_full.kp, b__law_full⟩
  have C__law_take : Cal P w K mg base 1 "_law_take" ["_law_near_here", "_law_laying_here", "_law_place"] spTake := ⟨_, d__law_take, ok_take B F__law_take, g__law_take, F__law_take.kp, b__law_take⟩
  have C__law_heads : Cal P w K mg base 1 "_law_heads" ["_law_laying_here"] spLHeads := ⟨_, d__law_heads, ok_lheads B F__law_heads, g__law_heads, F__law_heads.kp, b__law_heads⟩
  have C__law_left : Cal P w K mg base 8 "_law_left" ["_law_near_here", "_law_laying_here", "_law_is_mine", "_law_known"] (spLL P w 7) := ⟨_, d__law_left, ok_ll B F__law_left C__law_heads C__law_take g__law_left F__law_left.kp b__law_left 7, g__law_left, F__law_left.kp, b__law_left⟩
  have C__law_kind : Cal P w K mg base 9 "_law_kind" ["_law_row"] (spKind K) := ⟨_, d__law_kind, ok_kind B F__law_kind C__law_taken C__law_order C__law_laying C__law_web C__law_full C__law_near C__law_left, g__law_kind, F__law_kind.kp, b__law_kind⟩
  have C__law_behind : Cal P w K mg base 1 "_law_behind" ["_law_near_here", "_law_laying_here", "_law_state"] spLBeh := ⟨_, d__law_behind, ok_lbeh B F__law_behind, g__law_behind, F__law_behind.kp, b__law_behind⟩
  have C__law_follows : Cal P w K mg base 2 "_law_follows" ["_law_web_here", "_law_laying_here", "_law_is_first", "_law_moves"] spFollows := ⟨_, d__law_follows, ok_follows B F__law_follows C__law_near C__law_heads C__law_behind, g__law_follows, F__law_follows.kp, b__law_follows⟩
  exact ok_law B F_law C__law_kind C__law_near C__law_left C_keeper_plan C_keeper_wins C_shows_plan C__law_follows
end Ck
open PySem PySem.W PySem.Calls PyProof.Rows
theorem PySem.Challenge.cw_cointakes_k39_whole_plans_of_keepers_holds : PySem.Challenge.rw_cointakes_k39_whole_plans_of_keepers.Holds := by
  w_on; o_law
  refine HandSHeadRun.head_any (r := Ck.Rr) (q := view Ck.Rr.prog [39]) (H := Ck.hk) (ob := Ck.ob) (M := 6000) (loose := Ck.names) (d := HandSHeadRun.topDef Ck.Rr.prog 39) (kwd := []) Ck.ob_eq
    (by kernel_rfl) (fun s => by kernel_rfl) Ck.run (by kernel_rfl) (by kernel_rfl) (by kernel_rfl) (by rfl) (by first | assumption | decide +kernel) (by decide +kernel) ⟨rfl, rfl, rfl, rfl, rfl, by decide +kernel⟩ ?hw ?hc
  case hw => w_witness2
  case hc =>
    refine L2.walk_ofE (l := PySem.Challenge.rw_cointakes_k39_whole_plans_of_keepers) (n := 63) (k := 13) (x := "_law_script") (CX := L2.CX0) rfl (by decide) (by kernel_rfl) ⟨rfl, by decide, by decide⟩ ?F (fun _ _ _ _ z => z)
    intro w mg fa h Y G hmg0
    obtain ⟨K, KX, c⟩ := Y
    have hmg : mg ("law" : PySem.Str) = some (.ref fa) := by
      have e : (HandSHeadRun.topDef Ck.Rr.prog 39).name = ("law" : PySem.Str) := by kernel_rfl
      rw [← e]
      exact hmg0
    obtain ⟨fd, hb, hF⟩ := Ck.facts (P := (PySem.Challenge.rw_cointakes_k39_whole_plans_of_keepers).prog) (w := w) KX G hmg c
    exact ⟨K, fd, Ck.spLaw K, KX, hb, fun H a ns hl _ hS => ⟨a, ns, rfl, hS, fun _ _ => rfl⟩, hF⟩
