import PyProof.Rows.All
import Wide.All
import OpenK.AllK
import Wide.FinOn
import KE.SortData
import KE.OsSortAny
import HandS.ForMost
import HandS.Keys
import HandS.DictTup
import HandS.ListItems
import KE.KDictKeyed
import KE.KDictWalk
import KE.KDictSum
import HandS.IsInst
import HandS.Defaults
import PySem.Challenge.RW_avoidwords_k22_whole_kinds
set_option Elab.async false
set_option linter.all false
set_option maxRecDepth 100000
set_option maxHeartbeats 8000000
/-! The mathematics: words as lists of codes, their tables, the first word of each table. -/
namespace Av
open PySem PySem.W

/-- a word as a text -/
def mk (l : List Nat) : Str := ⟨l.toArray⟩
theorem mk_inj {a b : List Nat} (h : mk a = mk b) : a = b := by
  unfold mk at h
  injection h with h
  have := congrArg Array.toList h
  simpa using this
theorem mk_iff {a b : List Nat} : mk a = mk b ↔ a = b := ⟨mk_inj, fun h => by rw [h]⟩
theorem mk_cps (a : List Nat) : (mk a).cps.toList = a := by simp [mk]
theorem mk_len (a : List Nat) : (mk a).length = a.length := by
  show (mk a).cps.size = a.length
  simp [mk]

abbrev Tb := List (List Nat × Int)
/-- a table: how often -/
def look (t : Tb) (p : List Nat) : Int := ((t.find? fun x => decide (x.1 = p)).map (·.2)).getD 0
def put (t : Tb) (p : List Nat) (n : Int) : Tb := if (t.any fun x => decide (x.1 = p)) = true then t.map (fun x => if x.1 = p then (x.1, n) else x) else t ++ [(p, n)]
def bump (t : Tb) (p : List Nat) : Tb := put t p (look t p + 1)
/-- the part of j + 1 letters at i -/
def part (w : List Nat) (j i : Nat) : List Nat := (w.drop i).take (j + 1)
/-- the first i parts of j + 1 letters counted -/
def tabAt (w : List Nat) (j : Nat) (t : Tb) (i : Nat) : Tb := ((List.range i).map (part w j)).foldl bump t
theorem tabAt_zero (w : List Nat) (j : Nat) (t : Tb) : tabAt w j t 0 = t := rfl
theorem tabAt_succ (w : List Nat) (j : Nat) (t : Tb) (i : Nat) : tabAt w j t (i + 1) = bump (tabAt w j t i) (part w j i) := by
  unfold tabAt
  rw [List.range_succ, List.map_append, List.foldl_append]
  rfl
/-- the parts of up to d letters counted -/
def tab0 (w : List Nat) : Nat → Tb
  | 0 => []
  | d + 1 => tabAt w d (tab0 w d) (w.length - d)
def encP (x : List Nat × Int) : PyData := .tuple [.str (mk x.1), .int x.2]
def leP : List Nat × Int → List Nat × Int → Bool := dataLe false encP
/-- a word's table -/
def tab (w : List Nat) (d : Nat) : Tb := (tab0 w d).mergeSort leP
def leS : List Nat → List Nat → Bool := dataLe false fun w => .str (mk w)

/-! ### sizes -/
theorem put_len (t : Tb) (p : List Nat) (n : Int) : (put t p n).length ≤ t.length + 1 := by
  unfold put
  split
  · rw [List.length_map]; omega
  · rw [List.length_append]; simp
theorem tabAt_len (w : List Nat) (j : Nat) (t : Tb) : ∀ i, (tabAt w j t i).length ≤ t.length + i
  | 0 => by rw [tabAt_zero]; omega
  | i + 1 => by
    rw [tabAt_succ]
    have h := tabAt_len w j t i
    have h2 := put_len (tabAt w j t i) (part w j i) (look (tabAt w j t i) (part w j i) + 1)
    unfold bump
    omega
theorem tab0_len (w : List Nat) : ∀ d, (tab0 w d).length ≤ d * w.length
  | 0 => Nat.zero_le _
  | d + 1 => by
    have h := tab0_len w d
    have h2 := tabAt_len w d (tab0 w d) (w.length - d)
    show (tabAt w d (tab0 w d) (w.length - d)).length ≤ _
    rw [Nat.succ_mul]
    omega
theorem tab_len (w : List Nat) (d : Nat) : (tab w d).length ≤ d * w.length := by
  unfold tab
  rw [List.length_mergeSort]
  exact tab0_len w d
theorem part_len (w : List Nat) (j i : Nat) : (part w j i).length ≤ w.length := by
  unfold part
  rw [List.length_take, List.length_drop]
  omega
/-! ### keys -/
theorem put_keys {t : Tb} {p : List Nat} {n : Int} (h : (t.map (·.1)).Nodup) : ((put t p n).map (·.1)).Nodup := by
  unfold put
  split
  · rw [List.map_map]
    have e : ((fun x : List Nat × Int => x.1) ∘ fun x => if x.1 = p then (x.1, n) else x) = fun x => x.1 := by
      funext x
      show (if x.1 = p then (x.1, n) else x).1 = x.1
      split <;> rfl
    rw [e]
    exact h
  · rename_i hn
    rw [List.map_append]
    refine List.nodup_append.mpr ⟨h, by simp, fun a ha b hb => ?_⟩
    rintro rfl
    obtain ⟨x, hx, e⟩ := List.mem_map.mp ha
    have eb : a = p := by simpa using hb
    exact hn (List.any_eq_true.mpr ⟨x, hx, decide_eq_true (e.trans eb)⟩)
theorem tabAt_keys (w : List Nat) (j : Nat) {t : Tb} (h : (t.map (·.1)).Nodup) : ∀ i, ((tabAt w j t i).map (·.1)).Nodup
  | 0 => h
  | i + 1 => by
    rw [tabAt_succ]
    exact put_keys (tabAt_keys w j h i)
theorem tab0_keys (w : List Nat) : ∀ d, ((tab0 w d).map (·.1)).Nodup
  | 0 => List.nodup_nil
  | d + 1 => tabAt_keys w d (tab0_keys w d) _

/-! ### the first word of each table -/
section
variable {α β : Type} [DecidableEq β]
def step (f : α → β) (acc : List (β × α)) (w : α) : List (β × α) := if (acc.any fun p => decide (p.1 = f w)) = true then acc else acc ++ [(f w, w)]
def firsts (f : α → β) (ws : List α) : List (β × α) := ws.foldl (step f) []
theorem firsts_snoc (f : α → β) (ws : List α) (w : α) : firsts f (ws ++ [w]) = step f (firsts f ws) w := by
  unfold firsts
  rw [List.foldl_append]
  rfl
structure Fst (f : α → β) (ws : List α) (acc : List (β × α)) : Prop where
  key : ∀ p ∈ acc, p.1 = f p.2
  nd : (acc.map (·.1)).Nodup
  all : ∀ w ∈ ws, f w ∈ acc.map (·.1)
  sub : ∀ p ∈ acc, p.2 ∈ ws
  len : acc.length ≤ ws.length
theorem fst_nil (f : α → β) : Fst f [] [] := ⟨(fun _ h => nomatch h), List.nodup_nil, (fun _ h => nomatch h), (fun _ h => nomatch h), Nat.le_refl _⟩
theorem fst_step {f : α → β} {ws : List α} {acc : List (β × α)} (x : Fst f ws acc) (w : α) : Fst f (ws ++ [w]) (step f acc w) := by
  unfold step
  split
  · rename_i h
    obtain ⟨p, hp, e⟩ := List.any_eq_true.mp h
    have e := of_decide_eq_true e
    refine ⟨x.key, x.nd, fun v hv => ?_, fun p hp => List.mem_append_left _ (x.sub p hp), by have := x.len; rw [List.length_append]; omega⟩
    rcases List.mem_append.mp hv with hv | hv
    · exact x.all v hv
    · have ev : v = w := by simpa using hv
      rw [ev, ← e]
      exact List.mem_map.mpr ⟨p, hp, rfl⟩
  · rename_i h
    refine ⟨fun p hp => ?_, ?_, fun v hv => ?_, fun p hp => ?_, by have := x.len; rw [List.length_append, List.length_append]; simp; omega⟩
    · rcases List.mem_append.mp hp with hp | hp
      · exact x.key p hp
      · have e : p = (f w, w) := by simpa using hp
        rw [e]
    · rw [List.map_append]
      refine List.nodup_append.mpr ⟨x.nd, by simp, fun a ha b hb => ?_⟩
      rintro rfl
      have eb : a = f w := by simpa using hb
      obtain ⟨q, hq, e⟩ := List.mem_map.mp ha
      exact h (List.any_eq_true.mpr ⟨q, hq, decide_eq_true (e.trans eb)⟩)
    · rw [List.map_append]
      rcases List.mem_append.mp hv with hv | hv
      · exact List.mem_append_left _ (x.all v hv)
      · have ev : v = w := by simpa using hv
        rw [ev]
        exact List.mem_append_right _ (by simp)
    · rcases List.mem_append.mp hp with hp | hp
      · exact List.mem_append_left _ (x.sub p hp)
      · have e : p = (f w, w) := by simpa using hp
        rw [e]
        exact List.mem_append_right _ (by simp)
theorem fst_from {f : α → β} : ∀ (vs ws : List α) {acc : List (β × α)}, Fst f ws acc → Fst f (ws ++ vs) (vs.foldl (step f) acc)
  | [], ws, acc, x => by simpa using x
  | v :: vs, ws, acc, x => by
    have h := fst_from vs (ws ++ [v]) (fst_step x v)
    rw [List.append_assoc] at h
    exact h
theorem fst_all (f : α → β) (ws : List α) : Fst f ws (firsts f ws) := by
  have h := fst_from ws [] (fst_nil f)
  simpa [firsts] using h
/-- exactly one of them has a given table -/
theorem one_of : ∀ {acc : List (β × α)} {k : β}, (acc.map (·.1)).Nodup → k ∈ acc.map (·.1) → (acc.filter fun p => decide (p.1 = k)).length = 1
  | [], _, _, h => by simp at h
  | p :: r, k, hn, h => by
    have hn : (p.1 :: r.map (·.1)).Nodup := hn
    obtain ⟨h1, h2⟩ := List.nodup_cons.mp hn
    by_cases e : p.1 = k
    · rw [List.filter_cons_of_pos (by simpa using e)]
      have z : r.filter (fun p => decide (p.1 = k)) = [] := List.filter_eq_nil_iff.mpr fun q hq => by
        intro d
        have d := of_decide_eq_true d
        exact h1 (List.mem_map.mpr ⟨q, hq, d.trans e.symm⟩)
      rw [z]
      rfl
    · rw [List.filter_cons_of_neg (by simpa using e)]
      refine one_of h2 ?_
      rcases List.mem_cons.mp h with q | q
      · exact absurd q.symm e
      · exact q
end
/-- the words themselves, and those alike to a word of the list -/
theorem one_word {β : Type} [DecidableEq β] (f : List Nat → β) (ws : List (List Nat)) {o : List Nat} (ho : o ∈ ws) :
    ((((firsts f ws).map (·.2)).mergeSort leS).filter fun w => decide (f w = f o)).length = 1 := by
  have x := fst_all f ws
  have p := (List.mergeSort_perm ((firsts f ws).map (·.2)) leS).filter fun w => decide (f w = f o)
  rw [p.length_eq, List.filter_map, List.length_map]
  have e : (firsts f ws).filter ((fun w => decide (f w = f o)) ∘ fun p => p.2) = (firsts f ws).filter fun p => decide (p.1 = f o) := by
    refine List.filter_congr fun p hp => ?_
    show decide (f p.2 = f o) = decide (p.1 = f o)
    rw [x.key p hp]
  rw [e]
  exact one_of x.nd (x.all o ho)

/-! ### two tellings that part words alike -/
theorem firsts_same {α β γ : Type} [DecidableEq β] [DecidableEq γ] {f : α → β} {g : α → γ} : ∀ (ws : List α) (a : List (β × α)) (b : List (γ × α)), (∀ v ∈ ws, ∀ w ∈ ws ++ a.map (·.2), (f v = f w ↔ g v = g w)) →
    a.map (·.2) = b.map (·.2) → (∀ p ∈ a, p.1 = f p.2) → (∀ p ∈ b, p.1 = g p.2) → (ws.foldl (step f) a).map (·.2) = (ws.foldl (step g) b).map (·.2)
  | [], a, b, _, e, _, _ => e
  | w :: ws, a, b, h, e, ka, kb => by
    have q : (a.any fun p => decide (p.1 = f w)) = (b.any fun p => decide (p.1 = g w)) := by
      rw [Bool.eq_iff_iff, List.any_eq_true, List.any_eq_true]
      constructor
      · rintro ⟨p, hp, d⟩
        have d := of_decide_eq_true d
        have hm : p.2 ∈ b.map (·.2) := by rw [← e]; exact List.mem_map.mpr ⟨p, hp, rfl⟩
        obtain ⟨r, hr, er⟩ := List.mem_map.mp hm
        refine ⟨r, hr, decide_eq_true ?_⟩
        rw [kb r hr, er]
        exact ((h w List.mem_cons_self p.2 (List.mem_append_right _ (List.mem_map.mpr ⟨p, hp, rfl⟩))).mp (by rw [← d, ka p hp])).symm
      · rintro ⟨r, hr, d⟩
        have d := of_decide_eq_true d
        have hm : r.2 ∈ a.map (·.2) := by rw [e]; exact List.mem_map.mpr ⟨r, hr, rfl⟩
        obtain ⟨p, hp, ep⟩ := List.mem_map.mp hm
        refine ⟨p, hp, decide_eq_true ?_⟩
        rw [ka p hp, ep]
        exact ((h w List.mem_cons_self r.2 (List.mem_append_right _ hm)).mpr (by rw [← d, kb r hr])).symm
    have e2 : (step f a w).map (·.2) = (step g b w).map (·.2) := by
      unfold step
      rw [q]
      split
      · exact e
      · rw [List.map_append, List.map_append, e]
        rfl
    refine firsts_same ws _ _ (fun v hv u hu => h v (List.mem_cons_of_mem _ hv) u ?_) e2 (fun p hp => ?_) (fun p hp => ?_)
    · rcases List.mem_append.mp hu with hu | hu
      · exact List.mem_append_left _ (List.mem_cons_of_mem _ hu)
      · unfold step at hu
        split at hu
        · exact List.mem_append_right _ hu
        · rw [List.map_append] at hu
          rcases List.mem_append.mp hu with hu | hu
          · exact List.mem_append_right _ hu
          · have eu : u = w := by simpa using hu
            rw [eu]
            exact List.mem_append_left _ List.mem_cons_self
    · unfold step at hp
      split at hp
      · exact ka p hp
      · rcases List.mem_append.mp hp with hp | hp
        · exact ka p hp
        · have ep : p = (f w, w) := by simpa using hp
          rw [ep]
    · unfold step at hp
      split at hp
      · exact kb p hp
      · rcases List.mem_append.mp hp with hp | hp
        · exact kb p hp
        · have ep : p = (g w, w) := by simpa using hp
          rw [ep]
theorem firsts_len {α β γ : Type} [DecidableEq β] [DecidableEq γ] {f : α → β} {g : α → γ} (ws : List α) (h : ∀ v ∈ ws, ∀ w ∈ ws, (f v = f w ↔ g v = g w)) : (firsts f ws).length = (firsts g ws).length := by
  have q := firsts_same (f := f) (g := g) ws [] [] (fun v hv w hw => h v hv w (by simpa using hw)) rfl (fun _ h => by cases h) (fun _ h => by cases h)
  have := congrArg List.length q
  rw [List.length_map, List.length_map] at this
  exact this

/-! ### the order of the pairs -/
theorem leP_anti (x y : List Nat × Int) (h1 : leP x y = true) (h2 : leP y x = true) : x = y := by
  obtain ⟨p, n⟩ := x
  obtain ⟨q, m⟩ := y
  have g1 : (!dataLt (.tuple [.str (mk q), .int m]) (.tuple [.str (mk p), .int n])) = true := h1
  have g2 : (!dataLt (.tuple [.str (mk p), .int n]) (.tuple [.str (mk q), .int m])) = true := h2
  rw [dataLt_pair (by simp [alike]) (by simp [alike]), dataLt_str, dataLt_int] at g1 g2
  simp only [PyData.eqv, beq_iff_eq, mk_cps, mk_iff] at g1 g2
  by_cases e : p = q
  · subst e
    simp only [if_true] at g1 g2
    by_cases e2 : n = m
    · rw [e2]
    · have e3 : ¬ m = n := fun z => e2 z.symm
      rw [if_neg e3] at g1
      rw [if_neg e2] at g2
      simp only [Bool.not_eq_true', decide_eq_false_iff_not] at g1 g2
      omega
  · have e3 : ¬ q = p := fun z => e z.symm
    rw [if_neg e3] at g1
    rw [if_neg e] at g2
    simp only [Bool.not_eq_true', decide_eq_false_iff_not] at g1 g2
    exact absurd (List.le_antisymm (List.not_lt.mp g1) (List.not_lt.mp g2)) e
theorem leP_total : TotalLe leP := sortLe_total (PyProof.Rows.listOrd PyProof.Rows.itemOrd) false fun x => keyToks (encP x)
theorem sort_perm {a b : Tb} (h : a.Perm b) : a.mergeSort leP = b.mergeSort leP :=
  Srt.the_of_perm leP (fun _ _ _ => leP_total.trans _ _ _) (fun x y => Bool.or_eq_true_iff.mpr (leP_total.total x y)) leP_anti ((List.mergeSort_perm a leP).trans h) (sort_pairwise leP_total a)
theorem tab_iff (v w : List Nat) (d : Nat) : tab v d = tab w d ↔ (tab0 v d).Perm (tab0 w d) := by
  constructor
  · intro h
    unfold tab at h
    exact (List.mergeSort_perm _ leP).symm.trans (h ▸ List.mergeSort_perm (tab0 w d) leP)
  · intro h
    exact sort_perm h

/-! ### all words -/
def lets (size : Nat) : List Nat := [97, 98, 99].take size
def allW (size : Nat) : Nat → List (List Nat)
  | 0 => [[]]
  | n + 1 => (allW size n).flatMap fun r => (lets size).map fun c => r ++ [c]
theorem lets_len {size : Nat} (h : size ≤ 3) : (lets size).length = size := by
  unfold lets
  rw [List.length_take]
  simp
  omega
theorem allW_len {size : Nat} (h : size ≤ 3) : ∀ n, (allW size n).length = size ^ n
  | 0 => rfl
  | n + 1 => by
    show ((allW size n).flatMap fun r => (lets size).map fun c => r ++ [c]).length = _
    rw [List.length_flatMap]
    have e : (List.map (fun a => (List.map (fun c => a ++ [c]) (lets size)).length) (allW size n)) = List.replicate (allW size n).length size := by
      refine List.eq_replicate_iff.mpr ⟨by rw [List.length_map], fun b hb => ?_⟩
      obtain ⟨r, _, e⟩ := List.mem_map.mp hb
      rw [← e, List.length_map, lets_len h]
    rw [e, List.sum_replicate_nat, allW_len h n, Nat.pow_succ]
theorem allW_mem {size : Nat} : ∀ {n : Nat} {w : List Nat}, w ∈ allW size n ↔ w.length = n ∧ ∀ c ∈ w, c ∈ lets size
  | 0, w => by
    show w ∈ [[]] ↔ _
    constructor
    · intro h
      have e : w = [] := by simpa using h
      subst e
      exact ⟨rfl, fun _ h => nomatch h⟩
    · rintro ⟨h, _⟩
      have e : w = [] := List.length_eq_zero_iff.mp h
      rw [e]
      exact List.mem_singleton.mpr rfl
  | n + 1, w => by
    show w ∈ (allW size n).flatMap _ ↔ _
    rw [List.mem_flatMap]
    constructor
    · rintro ⟨r, hr, hw⟩
      obtain ⟨c, hc, rfl⟩ := List.mem_map.mp hw
      obtain ⟨h1, h2⟩ := allW_mem.mp hr
      refine ⟨by rw [List.length_append, h1]; rfl, fun d hd => ?_⟩
      rcases List.mem_append.mp hd with hd | hd
      · exact h2 d hd
      · have e : d = c := by simpa using hd
        rw [e]
        exact hc
    · rintro ⟨h1, h2⟩
      have hne : w ≠ [] := by
        intro e
        rw [e] at h1
        cases h1
      refine ⟨w.dropLast, allW_mem.mpr ⟨by rw [List.length_dropLast, h1]; rfl, fun d hd => h2 d (List.dropLast_subset w hd)⟩, List.mem_map.mpr ⟨w.getLast hne, h2 _ (List.getLast_mem hne), List.dropLast_concat_getLast hne⟩⟩

/-! ### numbers at depth 1, by the kernel -/
/-- how often each letter stands in a table -/
def cnts (t : Tb) : List Int := [97, 98, 99].map fun c => (t.map fun x => if x.1 = [c] then x.2 else 0).sum
/-- a table of letters from their numbers -/
def canon (ns : List Int) : Tb := (([97, 98, 99].zip ns).filter fun x => decide (x.2 ≠ 0)).map fun x => ([x.1], x.2)
theorem sum_perm {a b : List Int} (h : a.Perm b) : a.sum = b.sum := by
  induction h with
  | nil => rfl
  | cons x _ ih => rw [List.sum_cons, List.sum_cons, ih]
  | swap x y l => rw [List.sum_cons, List.sum_cons, List.sum_cons, List.sum_cons]; omega
  | trans _ _ ih1 ih2 => exact ih1.trans ih2
theorem cnts_perm {a b : Tb} (h : a.Perm b) : cnts a = cnts b := by
  unfold cnts
  refine List.map_congr_left fun c _ => ?_
  exact sum_perm (h.map _)
def good (size n : Nat) : Bool := (allW size n).all fun w => (tab0 w 1).isPerm (canon (cnts (tab0 w 1)))
def num (size n : Nat) : Nat := (firsts (fun w => cnts (tab0 w 1)) (allW size n)).length
theorem num_of {size n : Nat} (h : good size n = true) : (firsts (fun w => tab w 1) (allW size n)).length = num size n := by
  have g : ∀ w ∈ allW size n, (tab0 w 1).Perm (canon (cnts (tab0 w 1))) := fun w hw => List.isPerm_iff.mp (List.all_eq_true.mp h w hw)
  refine firsts_len _ fun v hv w hw => ?_
  rw [tab_iff]
  constructor
  · exact cnts_perm
  · intro e
    exact (g v hv).trans (by rw [e]; exact (g w hw).symm)
def want (size n : Nat) : Nat := if size = 1 then 1 else if size = 2 then n + 1 else (n + 1) * (n + 2) / 2
def chk (size n : Nat) : Bool := good size n && (num size n == want size n)
theorem chk1 : ((List.range 10).all fun n => chk 1 n) = true := by decide +kernel
theorem chk2 : ((List.range 8).all fun n => chk 2 n) = true := by decide +kernel
theorem chk3 : ((List.range 6).all fun n => chk 3 n) = true := by decide +kernel
/-- the lengths that are drawn -/
def Bnd (size n : Nat) : Prop := (size = 1 ∧ n < 10) ∨ (size = 2 ∧ n < 8) ∨ (size = 3 ∧ n < 6)
theorem num_want {size n : Nat} (b : Bnd size n) : (firsts (fun w => tab w 1) (allW size n)).length = want size n := by
  have c : chk size n = true := by
    rcases b with ⟨rfl, h⟩ | ⟨rfl, h⟩ | ⟨rfl, h⟩
    · exact List.all_eq_true.mp chk1 n (List.mem_range.mpr h)
    · exact List.all_eq_true.mp chk2 n (List.mem_range.mpr h)
    · exact List.all_eq_true.mp chk3 n (List.mem_range.mpr h)
  unfold chk at c
  rw [Bool.and_eq_true] at c
  rw [num_of c.1]
  exact beq_iff_eq.mp c.2
theorem Bnd.size {size n : Nat} (b : Bnd size n) : 1 ≤ size ∧ size ≤ 3 := by
  rcases b with ⟨rfl, h⟩ | ⟨rfl, h⟩ | ⟨rfl, h⟩ <;> omega
theorem Bnd.len {size n : Nat} (b : Bnd size n) : n ≤ 9 := by
  rcases b with ⟨rfl, h⟩ | ⟨rfl, h⟩ | ⟨rfl, h⟩ <;> omega
theorem Bnd.few {size n : Nat} (b : Bnd size n) : ∀ i, i ≤ n → (allW size i).length ≤ 243 := by
  intro i hi
  rw [allW_len b.size.2]
  rcases b with ⟨rfl, h⟩ | ⟨rfl, h⟩ | ⟨rfl, h⟩
  · rw [Nat.one_pow]; omega
  · exact Nat.le_trans (Nat.pow_le_pow_right (by omega) (show i ≤ 7 by omega)) (by decide)
  · exact Nat.le_trans (Nat.pow_le_pow_right (by omega) (show i ≤ 5 by omega)) (by decide)

/-! ### == of two tables -/
theorem eqv_tab : ∀ t u : Tb, PyData.eqvAll (t.map encP) (u.map encP) = decide (t = u)
  | [], [] => by simp [PyData.eqvAll]
  | [], y :: u => by simp [PyData.eqvAll]
  | x :: t, [] => by simp [PyData.eqvAll]
  | (p, n) :: t, (q, m) :: u => by
    have ih := eqv_tab t u
    show PyData.eqvAll (encP (p, n) :: t.map encP) (encP (q, m) :: u.map encP) = _
    rw [PyData.eqvAll, ih]
    have e : PyData.eqv (encP (p, n)) (encP (q, m)) = decide ((p, n) = (q, m)) := by
      unfold encP
      simp only [PyData.eqv, PyData.eqvAll, Bool.and_true]
      rw [Bool.eq_iff_iff]
      simp [mk_iff]
    rw [e]
    rw [Bool.eq_iff_iff]
    simp
end Av

/-! Own rules over the hand layer. -/
namespace Av
open PySem PySem.Spec PyProof.Rows L2

abbrev vS (w : List Nat) : V := .str (mk w)
/-! ### sorted(xs), xs a list of texts of any length -/
theorem each_vals : ∀ {ws : List (List Nat)} {us : List Value}, Vals (ws.map vS) us → PySem.W.EachIs (fun v w => RelV (vS w) v) us ws
  | [], _, h => by
    have h' : Vals [] _ := h
    cases h'
    exact .nil
  | w :: ws, _, h => by
    have h' : Vals (vS w :: ws.map vS) _ := h
    cases h' with
    | cons r t => exact .cons r (each_vals t)
theorem vals_each : ∀ {ws : List (List Nat)} {us : List Value}, PySem.W.EachIs (fun v w => RelV (vS w) v) us ws → Vals (ws.map vS) us
  | _, _, .nil => .nil
  | _, _, .cons r t => .cons r (vals_each t)
theorem reads_str {h : Heap} {v : Value} {x : Str} (r : RelV (.str x) v) : ∃ as, Reads h v (.str x) as := by
  obtain ⟨t, rfl⟩ := r
  exact ⟨[], .str x t⟩
section
variable {X : Cx}
def rSortT (K : PySem.W.Frag) : List V → Hp → VK → Prop := fun vs H Q => ∃ (a : Addr) (ws : List (List Nat)), vs = [V.ref a] ∧ SqL K H a (ws.map vS) ∧
  ∀ p, H p = none → Q (.ref p) (upd H p (.lst ((ws.mergeSort leS).map vS)))
theorem cr_sortT (hu : X.A.units + 64 < cLine) : CallR X (.builtin "sorted") (rSortT X.K) := by
  intro pins s σ H vs us Q I r h
  obtain ⟨a, ws, rfl, hs, q⟩ := h
  obtain ⟨its, rv, hl, hz⟩ := I.list hs
  rw [Vals.ref1 r]
  rw [List.length_map] at hz
  have e := each_vals rv
  refine PySem.W.sorted_data (enc := fun w => PyData.str (mk w)) hl.isList e (e.mono fun v w r => reads_str r) (PySem.W.AllAlike.of fun _ _ => by simp [PySem.W.alike]) (PySem.W.Sortable.others fun _ => ⟨(fun z => nomatch z), fun _ z => nomatch z⟩) hz
    (fun b _ => by show X.A.units + 2 + 0 < cLine; omega) fun out h1 h2 => ?_
  obtain ⟨ep, he'⟩ := PyProof.Rows.sortedAll_at s.heap its out.toArray
  have hlen : ((ws.mergeSort leS).map vS).length ≤ sizeLine := by
    rw [List.length_map, List.length_mergeSort]
    exact hz
  exact ⟨.ref _, upd H (s.heap.objs.size + 1) (.lst ((ws.mergeSort leS).map vS)), I.laid (t' := s.toks) (fun _ _ => PyProof.Rows.sortedAll_old) (Nat.le_succ _) ⟨hlen, out, ep, vals_each h2, he'⟩, rfl, q _ (I.hok.fresh (Nat.le_succ _))⟩
end

/-! ### a table as an object: a tuple of pairs -/
def TabAt (H : Hp) (a : Addr) (t : Tb) : Prop := ∃ ts : List Addr, H a = some (.tup (ts.map V.ref)) ∧ Paired (fun (b : Addr) (x : List Nat × Int) => H b = some (.tup [vS x.1, .int x.2])) ts t
theorem TabAt.same {H H' : Hp} {a : Addr} {t : Tb} (s : Same H H') (h : TabAt H a t) : TabAt H' a t := by
  obtain ⟨ts, h1, h2⟩ := h
  exact ⟨ts, s _ _ h1, Paired.mapP h2 fun _ _ e => s _ _ e⟩
theorem TabAt.tups {H H' : Hp} {a : Addr} {t : Tb} (s : ∀ b xs, H b = some (.tup xs) → H' b = some (.tup xs)) (h : TabAt H a t) : TabAt H' a t := by
  obtain ⟨ts, h1, h2⟩ := h
  exact ⟨ts, s _ _ h1, Paired.mapP h2 fun _ _ e => s _ _ e⟩
theorem tab_dp_all {K : PySem.W.Frag} {H : Hp} : ∀ {ts : List Addr} {t : Tb}, Paired (fun (b : Addr) (x : List Nat × Int) => H b = some (.tup [vS x.1, .int x.2])) ts t → DpAll K H (ts.map V.ref) (t.map encP)
  | _, _, .nil => .nil
  | _, _, .cons r t => .cons (.tup (SqT.of r) (.cons (.str _) (.cons (.int _) .nil))) (tab_dp_all t)
theorem TabAt.dp {K : PySem.W.Frag} {H : Hp} {a : Addr} {t : Tb} (h : TabAt H a t) : Dp K H (.ref a) (.tuple (t.map encP)) := by
  obtain ⟨ts, h1, h2⟩ := h
  exact .tup (SqT.of h1) (tab_dp_all h2)
/-- small letters -/
def Lw (w : List Nat) : Prop := ∀ c ∈ w, 97 ≤ c ∧ c ≤ 122
def Lt (t : Tb) : Prop := ∀ x ∈ t, Lw x.1
theorem lw_part {w : List Nat} (h : Lw w) (j i : Nat) : Lw (part w j i) := fun c hc => h c (List.mem_of_mem_drop (List.mem_of_mem_take hc))
theorem lt_put {t : Tb} {p : List Nat} {n : Int} (h : Lt t) (hp : Lw p) : Lt (put t p n) := by
  unfold put
  split
  · intro x hx
    obtain ⟨y, hy, e⟩ := List.mem_map.mp hx
    have e1 : x.1 = y.1 := by
      rw [← e]
      split <;> rfl
    rw [e1]
    exact h y hy
  · intro x hx
    rcases List.mem_append.mp hx with hx | hx
    · exact h x hx
    · have e : x = (p, n) := by simpa using hx
      rw [e]
      exact hp
theorem lt_tabAt {w : List Nat} (h : Lw w) (j : Nat) {t : Tb} (ht : Lt t) : ∀ i, Lt (tabAt w j t i)
  | 0 => ht
  | i + 1 => by
    rw [tabAt_succ]
    exact lt_put (lt_tabAt h j ht i) (lw_part h j i)
theorem lt_tab0 {w : List Nat} (h : Lw w) : ∀ d, Lt (tab0 w d)
  | 0 => fun _ hx => nomatch hx
  | d + 1 => lt_tabAt h d (lt_tab0 h d) _
theorem lt_tab {w : List Nat} (h : Lw w) (d : Nat) : Lt (tab w d) := fun x hx => lt_tab0 h d x ((List.mergeSort_perm _ leP).mem_iff.mp hx)
theorem lay_all : ∀ t : Tb, Lt t → PyData.canLayAll0 (t.map encP) = true
  | [], _ => rfl
  | x :: t, h => by
    have ih := lay_all t fun y hy => h y (List.mem_cons_of_mem _ hy)
    have hx : Lw x.1 := h x List.mem_cons_self
    show PyData.canLayAll0 (encP x :: t.map encP) = true
    rw [PyData.canLayAll0, ih, Bool.and_true]
    have e : PyData.strOk (mk x.1) = true := by
      unfold PyData.strOk mk
      rw [Array.all_toList.symm]
      refine List.all_eq_true.mpr fun c hc => ?_
      have := hx c (by simpa using hc)
      exact decide_eq_true (by omega)
    simp [encP, PyData.canLay0, PyData.canLayAll0, e]
theorem dep_all : ∀ t : Tb, PyData.depthAll (t.map encP) ≤ 1
  | [] => by simp [PyData.depthAll]
  | x :: t => by
    have ih := dep_all t
    show PyData.depthAll (encP x :: t.map encP) ≤ 1
    rw [PyData.depthAll]
    have e : (encP x).depth ≤ 1 := by simp [encP, PyData.depth, PyData.depthAll]
    omega
theorem shaped_tab {t : Tb} (h : Lt t) : SeqAt.shaped (.tuple (t.map encP)) = true := by
  unfold SeqAt.shaped
  rw [Bool.and_eq_true]
  constructor
  · simp only [PyData.canLay0]
    exact lay_all t h
  · have := dep_all t
    refine decide_eq_true ?_
    simp only [PyData.depth]
    omega
theorem eqv_tabs (t u : Tb) : PyData.eqv (.tuple (t.map encP)) (.tuple (u.map encP)) = decide (t = u) := by
  simp only [PyData.eqv]
  exact eqv_tab t u

/-! ### a dict whose keys are tables -/
def nk1 (x : List Nat × Int) : NestedKey := .tup [.text (mk x.1), .num x.2]
def nk (t : Tb) : NestedKey := .tup (t.map nk1)
theorem nk1_inj {x y : List Nat × Int} (h : nk1 x = nk1 y) : x = y := by
  obtain ⟨p, n⟩ := x
  obtain ⟨q, m⟩ := y
  unfold nk1 at h
  injection h with h
  injection h with h1 h2
  injection h1 with h1
  injection h2 with h2 _
  injection h2 with h2
  have e1 : p = q := mk_inj h1
  have e2 : n = m := h2
  rw [e1, e2]
theorem nks_inj : ∀ {t u : Tb}, t.map nk1 = u.map nk1 → t = u
  | [], [], _ => rfl
  | [], _ :: _, h => by simp at h
  | _ :: _, [], h => by simp at h
  | x :: t, y :: u, h => by
    rw [List.map_cons, List.map_cons] at h
    injection h with h1 h2
    rw [nk1_inj h1, nks_inj h2]
theorem nk_inj {t u : Tb} (h : nk t = nk u) : t = u := by
  unfold nk at h
  injection h with h
  exact nks_inj h
theorem nk_depth : ∀ t : Tb, NestedKey.depthAll (t.map nk1) ≤ 1
  | [] => by simp [NestedKey.depthAll]
  | x :: t => by
    have ih := nk_depth t
    show NestedKey.depthAll (nk1 x :: t.map nk1) ≤ 1
    rw [NestedKey.depthAll]
    have e : (nk1 x).depth ≤ 1 := by simp [nk1, NestedKey.depth, NestedKey.depthAll]
    omega
theorem nested_pair {P : Program} {w : World} {H : Hp} {h : Heap} (ok : HOk P w H h) {b : Addr} {x : List Nat × Int} (e : H b = some (.tup [vS x.1, .int x.2])) : NestedIs h (nk1 x) (.ref b) := by
  obtain ⟨_, its, rv, o, h1, h2, n, h3⟩ := (show ObjOk P w H h b (.tup [vS x.1, .int x.2]) from ok b _ e)
  obtain ⟨u1, u2, rfl, ⟨t1, rfl⟩, ⟨t2, rfl⟩⟩ := vals2 rv
  exact NestedIs.tup h1 h2 h3 (.cons (.text _ _) (.cons (.int _ _) .nil))
theorem nested_all {P : Program} {w : World} {H : Hp} {h : Heap} (ok : HOk P w H h) : ∀ {ts : List Addr} {t : Tb} {its : List Value}, Paired (fun (b : Addr) (x : List Nat × Int) => H b = some (.tup [vS x.1, .int x.2])) ts t → Vals (ts.map V.ref) its → NestedAll h (t.map nk1) its
  | _, _, _, .nil, r => by
    have r' : Vals [] _ := r
    cases r'
    exact .nil
  | _, _, _, .cons (a := b) (l₁ := bs) e p, r => by
    have r' : Vals (V.ref b :: bs.map V.ref) _ := r
    cases r' with
    | cons r1 r2 =>
      cases r1
      exact .cons (nested_pair ok e) (nested_all ok p r2)
theorem nested_of {P : Program} {w : World} {H : Hp} {h : Heap} (ok : HOk P w H h) {a : Addr} {t : Tb} (x : TabAt H a t) : (nestedKind P w).is h (nk t) a := by
  obtain ⟨ts, h1, h2⟩ := x
  obtain ⟨_, its, rv, o, g1, g2, n, g3⟩ := (show ObjOk P w H h a (.tup (ts.map V.ref)) from ok a _ h1)
  refine ⟨NestedIs.tup g1 g2 g3 (by simpa using nested_all ok h2 rv), ?_⟩
  have := nk_depth t
  show NestedKey.depth (.tup (t.map nk1)) ≤ 8
  simp only [NestedKey.depth]
  omega
end Av

/-! A dict keyed by tables; sorted over its values; sorted over the items of a dict with text keys. -/
namespace Av
open PySem PySem.Spec PyProof.Rows L2

abbrev Raw := List (NestedKey × Addr × Value)
/-- what stands at d: the entries xs -/
def Nd (P : Program) (w : World) (d : Addr) (xs : Raw) (h : Heap) : Prop := ∃ o es ep, h.get? d = some o ∧ o.ExactDict ∧ o.data = .dict es ep ∧ es.toList = xs.map (entryOfKey (nestedKind P w))
def ndO (P : Program) (w : World) (d : Addr) (xs : Raw) : HO := .ext (Nd P w d xs)
theorem nd_ok {P : Program} {w : World} {H : Hp} {h : Heap} {d : Addr} {xs : Raw} (x : Nd P w d xs h) : ObjOk P w H h d (ndO P w d xs) := by
  refine ⟨x, ?_, fun h1 h2 p k => ?_⟩
  · obtain ⟨o, _, _, e, _⟩ := x
    exact ⟨o, e⟩
  · obtain ⟨o, es, ep, e, r⟩ := p
    exact ⟨o, es, ep, k _ e, r⟩
abbrev KN (H : Hp) : List (Tb × V) → Raw → Prop := Paired fun p q => q.1 = nk p.1 ∧ TabAt H q.2.1 p.1 ∧ RelV p.2 q.2.2
/-- a dict with the tables and values kvs stands at d -/
def ND (P : Program) (w : World) (H : Hp) (d : Addr) (kvs : List (Tb × V)) : Prop :=
  kvs.length ≤ sizeLine ∧ (d == sysModules) = false ∧ (kvs.map (·.1)).Nodup ∧ ∃ xs, H d = some (ndO P w d xs) ∧ KN H kvs xs
theorem KN.same {H H' : Hp} {kvs : List (Tb × V)} {xs : Raw} (r : KN H kvs xs) (ht : ∀ b ys, H b = some (.tup ys) → H' b = some (.tup ys)) : KN H' kvs xs :=
  Paired.mapP r fun _ _ z => ⟨z.1, z.2.1.tups ht, z.2.2⟩
theorem KN.val {H : Hp} {kvs : List (Tb × V)} {xs : Raw} (r : KN H kvs xs) (k : Tb) : RelO (valV kvs k) ((atKey xs (nk k)).map (·.2)) := by
  induction r with
  | nil => exact True.intro
  | @cons p q ps qs h t ih =>
    obtain ⟨h1, _, h2⟩ := h
    by_cases e : p.1 = k
    · have e' : q.1 = nk k := by rw [h1, e]
      have b : atKey (q :: qs) (nk k) = some q.2 := by simp [atKey, List.find?_cons, e']
      rw [valV_pos e, b]; exact h2
    · have e' : ¬ q.1 = nk k := fun z => e (nk_inj (h1.symm.trans z))
      have b : atKey (q :: qs) (nk k) = atKey qs (nk k) := by simp [atKey, List.find?_cons, e']
      rw [valV_neg e, b]; exact ih
theorem KN.keys {H : Hp} {kvs : List (Tb × V)} {xs : Raw} (r : KN H kvs xs) : xs.map (·.1) = (kvs.map (·.1)).map nk := by
  induction r with
  | nil => rfl
  | cons h t ih => rw [List.map_cons, List.map_cons, List.map_cons, ih, h.1]
theorem nodup_map_nk : ∀ {l : List Tb}, l.Nodup → (l.map nk).Nodup
  | [], _ => List.nodup_nil
  | a :: l, h => by
    obtain ⟨h1, h2⟩ := List.nodup_cons.mp h
    rw [List.map_cons]
    refine List.nodup_cons.mpr ⟨fun m => ?_, nodup_map_nk h2⟩
    obtain ⟨b, hb, e⟩ := List.mem_map.mp m
    exact h1 (by rw [← nk_inj e]; exact hb)
section
variable {X : Cx} {pins : List (Addr × Obj)} {σ : L2.St} {H : Hp} {s : Shared} {d b : Addr} {kvs : List (Tb × V)} {A : Around} {E : Value → Shared → Prop}
theorem nd_of (I : Inv X pins σ H s) (h : ND X.prog X.w H d kvs) : ∃ xs, KN H kvs xs ∧ H d = some (ndO X.prog X.w d xs) ∧ s.heap.DictOfH (nestedKind X.prog X.w) d xs := by
  obtain ⟨h1, h2, h3, xs, h4, h5⟩ := h
  obtain ⟨o, es, ep, e1, e2, e3, e4⟩ := (show ObjOk X.prog X.w H s.heap d (ndO X.prog X.w d xs) from I.hok d _ h4).1
  refine ⟨xs, h5, h4, o, es, ep, e1, e2, e3, e4, ?_, by rw [h5.keys]; exact nodup_map_nk h3⟩
  have all : ∀ {l : List (Tb × V)} {m : Raw}, KN H l m → ∀ x ∈ m, (nestedKind X.prog X.w).is s.heap x.1 x.2.1 := by
    intro l m q
    induction q with
    | nil => intro x hx; exact nomatch hx
    | @cons p q ps qs hq t ih =>
      intro x hx
      rcases List.mem_cons.mp hx with e | hx
      · subst e
        rw [hq.1]
        exact nested_of I.hok hq.2.1
      · exact ih x hx
  exact all h5
theorem room_of (hu : A.units + 64 < cLine) : (nestedKind X.prog X.w).room A.in1 := by
  show A.units + 1 + 8 < cLine
  omega
/-- k not in d -/
theorem nd_notIn {t : Tb} {Q : Value → Shared → Prop} (hu : A.units + 64 < cLine) (I : Inv X pins σ H s) (n : ND X.prog X.w H d kvs) (k : TabAt H b t) (h : ∀ s', Inv X pins σ H s' → Q (.bool (!(valV kvs t).isSome)) s') :
    wpAny (model X.prog X.w) A (compareOp .NotIn (.ref b) (.ref d)) Q E s := by
  obtain ⟨xs, rel, _, dd⟩ := nd_of I n
  refine notIn_keyed (room_of hu) (nested_of I.hok k) n.2.1 ⟨xs, dd, rfl⟩ ?_
  have q := (rel.val t).isSome_eq
  rw [valueAt_pairsH, ← q]
  exact h _ (I.tok _)
/-- a new pair behind the others -/
theorem nd_put {t : Tb} {v : V} {u : Value} {h' : Heap} {tk : Nat} (I : Inv X pins σ H s) (n : ND X.prog X.w H d kvs) (hl : kvs.length < sizeLine) (hn : valV kvs t = none) (k : TabAt H b t) (rv : RelV v u) {xs : Raw} (rel : KN H kvs xs) (hd : H d = some (ndO X.prog X.w d xs))
    (dd : h'.DictOfH (nestedKind X.prog X.w) d (storedH xs (nk t) b u)) (sb : Heap.SameBut d s.heap h') :
    ∃ H', Inv X pins σ H' { s with heap := h', toks := tk } ∧ ND X.prog X.w H' d (kvs ++ [(t, v)]) ∧ ∀ c, c ≠ d → H' c = H c := by
  have q := rel.val t
  rw [hn] at q
  have hx : atKey xs (nk t) = none := by
    cases e : atKey xs (nk t) with
    | none => rfl
    | some p =>
      rw [e] at q
      exact (show False from q).elim
  rw [storedH_new hx] at dd
  obtain ⟨o, es, ep, e1, e2, e3, e4, _, _⟩ := dd
  have tp : ∀ c ys, H c = some (.tup ys) → (upd H d (ndO X.prog X.w d (xs ++ [(nk t, b, u)]))) c = some (.tup ys) := fun c ys e => by
    rw [upd_ne (ne_of e hd (fun z => nomatch z))]
    exact e
  refine ⟨upd H d (ndO X.prog X.w d (xs ++ [(nk t, b, u)])), I.write (x := d) (e := d) (by rw [hd]; exact True.intro) (.inl rfl) (fun c o hc e => (sb.2 c hc).trans e) ⟨o, e1⟩ (nd_ok ⟨o, es, ep, e1, e2, e3, e4⟩), ⟨?_, n.2.1, ?_, _, upd_same, ?_⟩, fun c hc => upd_ne hc⟩
  · rw [List.length_append]
    show kvs.length + 1 ≤ sizeLine
    omega
  · rw [List.map_append]
    exact nd_snoc n.2.2.1 (valV_not hn)
  · exact Paired.snoc (rel.same tp) ⟨rfl, k.tups tp, rv⟩
/-- d[k] = v, a new key -/
theorem nd_set {t : Tb} {v : V} {u : Value} {Q : Unit → Shared → Prop} (hu : A.units + 64 < cLine) (I : Inv X pins σ H s) (n : ND X.prog X.w H d kvs) (hl : kvs.length < sizeLine) (hn : valV kvs t = none) (k : TabAt H b t) (rv : RelV v u)
    (h : ∀ H' s', Inv X pins σ H' s' → ND X.prog X.w H' d (kvs ++ [(t, v)]) → (∀ c, c ≠ d → H' c = H c) → Q () s') : wpAny (model X.prog X.w) A (setItem (.ref d) (.ref b) u) Q E s := by
  obtain ⟨xs, rel, hd, dd⟩ := nd_of I n
  have hz : xs.length ≤ sizeLine := by rw [← Paired.length rel]; exact n.1
  refine wpAny_setItem_heap (hsz := hz) (room_of hu) (nested_of I.hok k) dd fun h' dd' sb => ?_
  obtain ⟨H', I', n', o'⟩ := nd_put (tk := s.toks + (nestedKind X.prog X.w).draws (nk t)) I n hl hn k rv rel hd dd' sb
  exact h H' _ I' n' o'
/-- d.setdefault(k, v) -/
theorem nd_setdef {t : Tb} {v : V} {u : Value} {Q : Value → Shared → Prop} (hu : A.units + 64 < cLine) (I : Inv X pins σ H s) (n : ND X.prog X.w H d kvs) (hl : kvs.length < sizeLine) (k : TabAt H b t) (rv : RelV v u)
    (h1 : ∀ y, valV kvs t = some y → ∀ w' s', Inv X pins σ H s' → RelV y w' → Q w' s')
    (h2 : valV kvs t = none → ∀ H' s', Inv X pins σ H' s' → ND X.prog X.w H' d (kvs ++ [(t, v)]) → (∀ c, c ≠ d → H' c = H c) → Q u s') : wpAny (model X.prog X.w) A (call (.builtin "dict.setdefault") [.ref d, .ref b, u]) Q E s := by
  obtain ⟨xs, rel, hd, dd⟩ := nd_of I n
  have hz : xs.length ≤ sizeLine := by rw [← Paired.length rel]; exact n.1
  refine call_setdefault_heap (hsz := hz) (room_of hu) (nested_of I.hok k) n.2.1 dd (fun p hp => ?_) fun hno h' dd' sb => ?_
  · have q := rel.val t
    rw [hp] at q
    cases e : valV kvs t with
    | none =>
      rw [e] at q
      exact (show False from q).elim
    | some y =>
      rw [e] at q
      exact h1 y e _ _ (I.tok _) q
  · have q := rel.val t
    rw [hno] at q
    cases e : valV kvs t with
    | some y =>
      rw [e] at q
      exact (show False from q).elim
    | none =>
      obtain ⟨H', I', n', o'⟩ := nd_put (tk := s.toks + (nestedKind X.prog X.w).draws (nk t)) I n hl e k rv rel hd dd' sb
      exact h2 e H' _ I' n' o'
end

/-! ### readings and rules -/
section
variable {X : Cx} {pos : Pos}
def tNdNew (P : Program) (w : World) : TE := fun _ H Q => ∀ p H', H p = none → ND P w H' p [] → (∀ c, c ≠ p → H' c = H c) → Q (.ref p) H'
theorem pe_ndnew : PE X (.Dict [] [] pos) (tNdNew X.prog X.w) := ⟨fun pins s σ H Q I h => by
  have hb : s.heap.objs.size ≠ sysModules := Ne.symm (Nat.ne_of_lt I.big)
  refine wpAny_Dict_empty ⟨.ref s.heap.objs.size, _, I.laid (a := s.heap.objs.size) (o := ndO X.prog X.w s.heap.objs.size []) (t' := s.toks) (fun _ _ q => Heap.get?_push_of_some _ q) (Nat.le_refl _) (nd_ok ⟨_, #[], 0, Heap.get?_push_size _ rfl, ⟨rfl, rfl, rfl⟩, rfl, rfl⟩), rfl, ?_⟩
  exact h _ _ (I.hok.fresh (Nat.le_refl _)) ⟨Nat.zero_le _, beq_eq_false_iff_ne.mpr hb, List.nodup_nil, [], upd_same, .nil⟩ fun c hc => upd_ne hc⟩
def rNdNotIn (P : Program) (w : World) : R2 := fun x y H Q => ∃ b d t kvs, x = .ref b ∧ y = .ref d ∧ TabAt H b t ∧ ND P w H d kvs ∧ Q (.bl (!(valV kvs t).isSome)) H
theorem op_ndNotIn (hu : X.A.units + 64 < cLine) : OpR X (compareOp .NotIn) (rNdNotIn X.prog X.w) := by
  intro pins s σ H x y v u Q I rx ry h
  obtain ⟨b, d, t, kvs, rfl, rfl, k, n, q⟩ := h
  cases rx
  cases ry
  exact nd_notIn hu I n k fun s' I' => ⟨.bl _, H, I', rfl, q⟩
def sNdSet (P : Program) (w : World) : TSet := fun o i v H Q => ∃ d b t kvs, o = .ref d ∧ i = .ref b ∧ TabAt H b t ∧ ND P w H d kvs ∧ kvs.length < sizeLine ∧ valV kvs t = none ∧
  ∀ H', ND P w H' d (kvs ++ [(t, v)]) → (∀ c, c ≠ d → H' c = H c) → Q H'
theorem set_nd (hu : X.A.units + 64 < cLine) : PSet X (sNdSet X.prog X.w) := by
  intro pins s σ H o i v ov iv u Q I ro ri rv h
  obtain ⟨d, b, t, kvs, rfl, rfl, k, n, hl, hn, q⟩ := h
  cases ro
  cases ri
  exact nd_set hu I n hl hn k rv fun H' s' I' n' o' => ⟨H', I', q H' n' o'⟩
variable {o e f : Expr} {td ty tx : TE} {apos cpos p : Pos}
theorem nd_typeIs {pins : List (Addr × Obj)} {σ : L2.St} {H : Hp} {s : Shared} {d : Addr} {kvs : List (Tb × V)} (I : Inv X pins σ H s) (n : ND X.prog X.w H d kvs) : s.TypeIs (.ref d) "dict" ∧ ∀ b, Value.ref d = .ref b → ∃ ob, s.heap.get? b = some ob ∧ ob.dict = none := by
  obtain ⟨xs, rel, hd, dd⟩ := nd_of I n
  refine ⟨dd.typeIs, fun b q => ?_⟩
  cases q
  obtain ⟨ob, _, _, h1, h2, _⟩ := dd
  exact ⟨ob, h1, h2.2.1⟩
/-- d.setdefault(k, v), its value dropped or not -/
def tNdSetd (P : Program) (w : World) (td ty tx : TE) : TE := fun σ H Q => td σ H fun x H1 => ∃ d, x = .ref d ∧ (∃ kvs, ND P w H1 d kvs) ∧ ty σ H1 fun y H2 => tx σ H2 fun z H3 => ∃ kvs b t, y = .ref b ∧ TabAt H3 b t ∧ ND P w H3 d kvs ∧ kvs.length < sizeLine ∧
  (∀ v, valV kvs t = some v → Q v H3) ∧ (valV kvs t = none → ∀ H', ND P w H' d (kvs ++ [(t, z)]) → (∀ c, c ≠ d → H' c = H3 c) → Q z H')
theorem pe_ndsetd (hu : X.A.units + 64 < cLine) (ho : PE X o td) (he : PE X e ty) (hf : PE X f tx) (m : M2 X o "setdefault" apos e f cpos) : PE X (.Call (.Attribute o "setdefault" apos) [e, f] [] cpos) (tNdSetd X.prog X.w td ty tx) := by
  refine ⟨fun pins s σ H Q I h => ?_⟩
  refine wpAny_Call_method m.base m.few m.line PySem.F.plainAttrs_dict PySem.F.slot_dict_setdefault PySem.F.type_dict_setdefault (thn (ho.run pins s σ H _ I h) fun u s1 ⟨x, H1, I1, rx, d, ex, ⟨kvs0, n0⟩, q1⟩ => ?_)
  subst ex
  obtain rfl : u = Value.ref d := rx
  obtain ⟨t1, t2⟩ := nd_typeIs I1 n0
  refine ⟨t1, t2, ?_⟩
  rw [m.trees]
  refine Calls.callWith_builtin rfl (Calls.evalArgs_plain (Calls.spliced_cons (thn (he.run pins s1 σ H1 _ I1 q1) fun iv s2 ⟨y, H2, I2, ry, q2⟩ =>
    Calls.spliced_cons (thn (hf.run pins s2 σ H2 _ I2 q2) fun fv s3 ⟨z, H3, I3, rz, kvs, b, t, ey, k, n, hl, q3, q4⟩ => Calls.spliced_nil ?_))))
  subst ey
  obtain rfl : iv = Value.ref b := ry
  exact nd_setdef hu I3 n hl k rz (fun y hy w' s4 I4 rw' => ⟨y, _, I4, rw', q3 y hy⟩) fun hn H' s4 I4 n' o' => ⟨z, _, I4, rz, q4 hn H' n' o'⟩
end
end Av

/-! sorted(d.values()) of a dict keyed by tables; sorted(d.items()) of a dict with text keys. -/
namespace Av
open PySem PySem.Spec PyProof.Rows PySem.Calls PyProof.V L2
open PySem.W (KdlSrc)

theorem vals_at : ∀ {kvs : List (Tb × V)} {xs : Raw} {H : Hp} {ws : List (List Nat)} {us : List Value}, KN H kvs xs → kvs.map (·.2) = ws.map vS → us.length = xs.length → (∀ (j : Nat) (v : Value), us[j]? = some v → ∃ x, xs[j]? = some x ∧ v = x.2.2) →
    PySem.W.EachIs (fun v w => RelV (vS w) v) us ws := by
  intro kvs xs H ws us r
  induction r generalizing ws us with
  | nil =>
    intro e l _
    cases us with
    | nil =>
      cases ws with
      | nil => exact .nil
      | cons w ws => simp at e
    | cons u us => simp at l
  | @cons p q ps qs h t ih =>
    intro e l ix
    cases us with
    | nil => simp at l
    | cons u us =>
      cases ws with
      | nil => simp at e
      | cons w ws =>
        rw [List.map_cons, List.map_cons] at e
        injection e with e1 e2
        obtain ⟨x, hx, ev⟩ := ix 0 u rfl
        have hx' : q = x := Option.some.inj hx
        subst hx'
        refine .cons ?_ (ih e2 (by simpa using l) fun j v hj => ix (j + 1) v hj)
        rw [ev, ← e1]
        exact h.2.2
section
variable {X : Cx} {e : Expr} {te : TE} {p apos cpos pos : Pos}
/-- sorted(e.values()), the values texts -/
def tSortVals (P : Program) (w : World) (te : TE) : TE := fun σ H Q => te σ H fun x H1 => ∃ (d : Addr) (kvs : List (Tb × V)) (ws : List (List Nat)), x = .ref d ∧ ND P w H1 d kvs ∧ kvs.map (·.2) = ws.map vS ∧
  ∀ p, H1 p = none → Q (.ref p) (upd H1 p (.lst ((ws.mergeSort leS).map vS)))
theorem pe_sortVals (hu : X.A.units + 64 < cLine) (hc : X.calm = true) (he : PE X e te) (hg : Gl X "sorted") (hm : X.mg "sorted" = none) (hv : bootBuiltins "sorted" = some (.builtin "sorted")) (hbase : attributeBase e "values" X.env (eval e X.env) = eval e X.env := by rfl) (hline : (apos.endLine == cpos.line) = true := by rfl)
    (hs : starEach [.Call (.Attribute e "values" apos) [] [] cpos] X.env = (false, eval (.Call (.Attribute e "values" apos) [] [] cpos) X.env) :: starEach [] X.env := by rfl) :
    PE X (.Call (.Name "sorted" p) [.Call (.Attribute e "values" apos) [] [] cpos] [] pos) (tSortVals X.prog X.w te) := by
  refine ⟨fun pins s σ H Q I hq => ?_⟩
  refine wpAny_Call_Name_kw (ld_blt I hg hm hv ?_)
  rw [hs]
  refine Calls.callWith_builtin rfl (Calls.evalArgs_plain ?_)
  show wpAny _ _ (spliced ((false, eval (.Call (.Attribute e "values" apos) [] [] cpos) X.env) :: backTo pos (starEach [] X.env))) _ _ s
  refine Calls.spliced_cons ?_
  refine wpAny_Call_method (T := "dict") (id := "dict.values") hbase rfl hline F.plainAttrs_dict F.slot_dict_values F.type_dict_values (thn (he.run pins s σ H _ I hq) fun u s1 ⟨x, H1, I1, rx, d, kvs, ws, ex, n, ew, q⟩ => ?_)
  subst ex
  obtain rfl : u = Value.ref d := rx
  obtain ⟨t1, t2⟩ := nd_typeIs I1 n
  obtain ⟨xs, rel, hd, o, es, ep, g1, g2, g3, g4, _, _⟩ := nd_of I1 n
  have lk : kvs.length = xs.length := Paired.length rel
  have les : es.size = xs.length := by
    have := congrArg List.length g4
    rw [List.length_map, Array.length_toList] at this
    exact this
  have lw : ws.length = kvs.length := by
    have := congrArg List.length ew
    rw [List.length_map, List.length_map] at this
    exact this.symm
  have hz : kvs.length ≤ sizeLine := n.1
  have raw : s1.heap.DictRaw d es ep := ⟨o, g1, g2, g3⟩
  refine ⟨t1, t2, ?_⟩
  show wpAny _ _ (callWith cpos (.builtin "dict.values") [.ref d] [] []) _ X.xe s1
  refine method_meetsIn F.slot_dict_values F.entry_dict_values rfl (PySem.evalArgs_none ⟨rfl, t1, F.args_dict_values_1 _, _, meets_dict_values_raw d n.2.1, ⟨⟨es, ep, raw⟩, ?_⟩⟩)
  refine Calls.spliced_nil ?_
  have rv : (s1.heap.push { cls := .type "dict_values", data := .fields #[.ref d] }).DictRaw d es ep := raw.push _
  refine call_function_entry kind_sorted plain_sorted entry_sorted (args_sorted1 _) ?_
  unfold Builtin.«sorted»
  refine wpAny_bind (m := checkCount "sorted" 1 1 _) (wpAny_pure ?_)
  refine wpAny_bind (PySem.W.kdu_collect (A := X.A.in1) (KdlSrc.rawValues (r := s1.heap.objs.size) (d := d) (es := es) (ep := ep)) (I1.ok.hd hc) ⟨⟨_, Heap.get?_push_size _ rfl, rfl, rfl⟩, rv⟩ (by omega) fun h' tk acc hk hacc => ?_)
  have hl : acc.toList.length = es.size := by rw [Array.length_toList]; exact hacc.1
  have ea : PySem.W.EachIs (fun v w => RelV (vS w) v) acc.toList ws := vals_at rel ew (by omega) fun j v hj => by
    obtain ⟨hi, ev⟩ := hacc.2 j v (by rw [← Array.getElem?_toList]; exact hj)
    have hx := entry_at (knd := nestedKind X.prog X.w) g4 j
    rw [Array.getElem?_eq_getElem hi] at hx
    cases hxj : xs[j]? with
    | none =>
      rw [hxj] at hx
      exact nomatch (show some es[j] = none from hx)
    | some x =>
      rw [hxj] at hx
      have hx2 : es[j] = entryOfKey (nestedKind X.prog X.w) x := Option.some.inj hx
      exact ⟨x, rfl, by rw [ev, hx2]; rfl⟩
  refine wpAny_bind (wpAny_newList ?_ (by rw [hl]; omega))
  have hk' : ∀ b o, s1.heap.get? b = some o → h'.get? b = some o := fun b o e => hk b o (Heap.get?_push_of_some _ e)
  have hD : (h'.push { cls := .type "list", data := .seq acc.toList.toArray }).get? h'.objs.size = some (seqObj "list" acc.toList.toArray 0) := Heap.get?_push_size _ rfl
  have hlow : s1.heap.objs.size ≤ h'.objs.size := by
    have : s1.heap.objs.size < h'.objs.size := Heap.lt_size (hk s1.heap.objs.size _ (Heap.get?_push_size _ rfl))
    omega
  refine wpAny_bind (wpAny_holding (PySem.W.list_sort_data (A := X.A.in1) (enc := fun w => PyData.str (mk w)) (R := fun v w => RelV (vS w) v) (s := { s1 with heap := h'.push { cls := .type "list", data := .seq acc.toList.toArray }, toks := tk }) hD ea
    (ea.mono fun v w r => by
      obtain ⟨t, rfl⟩ := r
      exact ⟨[], .str _ t, by simp⟩) (PySem.W.AllAlike.of fun _ _ => by simp [PySem.W.alike]) (PySem.W.Sortable.others fun _ => ⟨(fun z => nomatch z), fun _ z => nomatch z⟩) (by omega) (fun b _ => by show X.A.units + 1 + 1 + 0 < cLine; omega) fun out o1 o2 => ?_))
  refine wpAny_pure ⟨_, rfl, ?_⟩
  obtain ⟨eF, heF⟩ := PyProof.Rows.sortedHeap_at (vs := acc.toList) (out := out.toArray) hD
  have kS : ∀ b o, s1.heap.get? b = some o → (PyProof.Rows.sortedHeap (h'.push { cls := .type "list", data := .seq acc.toList.toArray }) h'.objs.size acc.toList out.toArray).get? b = some o := fun b o e => by
    have e1 := hk' b o e
    have e2 : (h'.push { cls := .type "list", data := .seq acc.toList.toArray }).get? b = some o := Heap.get?_push_of_some _ e1
    exact (PyProof.Rows.sortedHeap_old (Nat.ne_of_lt (Heap.lt_size e1)) (Heap.lt_size e2)).trans e2
  have hn0 : H1 h'.objs.size = none := I1.hok.fresh hlow
  have I2 : Inv X pins σ H1 { s1 with heap := PyProof.Rows.sortedHeap (h'.push { cls := .type "list", data := .seq acc.toList.toArray }) h'.objs.size acc.toList out.toArray, toks := tk } := I1.kept (t' := tk) kS
  have hlen : ((ws.mergeSort leS).map vS).length ≤ sizeLine := by
    rw [List.length_map, List.length_mergeSort]
    omega
  have I3 := I2.take (h' := PyProof.Rows.sortedHeap (h'.push { cls := .type "list", data := .seq acc.toList.toArray }) h'.objs.size acc.toList out.toArray) (t' := tk) (fun b ob _ e => e) (I1.fpOk hlow hn0) (o := .lst ((ws.mergeSort leS).map vS)) ⟨hlen, out, eF, vals_each o2, heF⟩
  exact ⟨.ref h'.objs.size, _, I3, rfl, q _ hn0⟩
end

/-! ### sorted(e.items()), keys texts, values ints -/
def toK (x : List Nat × Int) : Key × V := (.inr (mk x.1), .int x.2)
def TupP (h : Heap) (a : Addr) (x : List Nat × Int) : Prop := ∃ t1 t2, h.get? a = some { cls := .type "tuple", data := .seq #[.str (mk x.1) t1, .int x.2 t2] }
theorem TupP.inj {h : Heap} {a : Addr} {x y : List Nat × Int} (p : TupP h a x) (q : TupP h a y) : x = y := by
  obtain ⟨t1, t2, e⟩ := p
  obtain ⟨u1, u2, e'⟩ := q
  rw [e] at e'
  have z := Option.some.inj e'
  injection z with _ _ z _
  injection z with z _
  have z2 := congrArg Array.toList z
  have z3 : [Value.str (mk x.1) t1, Value.int x.2 t2] = [Value.str (mk y.1) u1, Value.int y.2 u2] := z2
  injection z3 with z4 z5
  injection z5 with z5 _
  injection z4 with z4 _
  injection z5 with z5 _
  obtain ⟨p, n⟩ := x
  obtain ⟨q, m⟩ := y
  have e1 : p = q := mk_inj z4
  have e2 : n = m := z5
  rw [e1, e2]
theorem each_ix {α β : Type} {R : α → β → Prop} : ∀ {us : List α} {ws : List β}, us.length = ws.length → (∀ (j : Nat) u w, us[j]? = some u → ws[j]? = some w → R u w) → PySem.W.EachIs R us ws
  | [], [], _, _ => .nil
  | [], _ :: _, h, _ => by cases h
  | _ :: _, [], h, _ => by cases h
  | u :: us, w :: ws, h, f => .cons (f 0 u w rfl rfl) (each_ix (by simpa using h) fun j u w h1 h2 => f (j + 1) u w h1 h2)
theorem refs_each {S : Addr → List Nat × Int → Prop} : ∀ {out : List Value} {ss : Tb}, PySem.W.EachIs (fun v x => ∃ a, v = Value.ref a ∧ S a x) out ss → ∃ ts : List Addr, out = ts.map Value.ref ∧ Paired S ts ss
  | _, _, .nil => ⟨[], rfl, .nil⟩
  | _, _, .cons h t => by
    obtain ⟨a, e, q⟩ := h
    obtain ⟨ts, e2, p⟩ := refs_each t
    exact ⟨a :: ts, by rw [e, e2]; rfl, .cons q p⟩
theorem vals_refs : ∀ ts : List Addr, Vals (ts.map V.ref) (ts.map Value.ref)
  | [] => .nil
  | _ :: ts => .cons rfl (vals_refs ts)
theorem kv_ix {t : Tb} {vs : List (Key × Value)} (r : KV (t.map toK) vs) {j : Nat} {k : Key} {v : Value} (e : vs[j]? = some (k, v)) : ∃ x, t[j]? = some x ∧ k = .inr (mk x.1) ∧ RelV (.int x.2) v := by
  unfold KV at r
  induction t generalizing vs j with
  | nil =>
    have r' : Paired _ [] vs := r
    cases r'
    simp at e
  | cons x t ih =>
    have r' : Paired (fun (p : Key × V) (q : Key × Value) => p.1 = q.1 ∧ RelV p.2 q.2) (toK x :: t.map toK) vs := r
    cases r' with
    | cons h p =>
      cases j with
      | zero =>
        have e' := Option.some.inj e
        subst e'
        exact ⟨x, rfl, h.1.symm, h.2⟩
      | succ j => exact ih p (by simpa using e)
section
variable {X : Cx} {e : Expr} {te : TE} {p apos cpos pos : Pos}
def tSortItems (te : TE) : TE := fun σ H Q => te σ H fun x H1 => ∃ (d : Addr) (t : Tb), x = .ref d ∧ H1 d = some (.dK (t.map toK)) ∧
  ∀ (H' : Hp) (p : Addr) (ts : List Addr), Same H1 H' → H1 p = none → H' p = some (.lst (ts.map V.ref)) → Paired (fun (a : Addr) (x : List Nat × Int) => H' a = some (.tup [vS x.1, .int x.2])) ts (t.mergeSort leP) → Q (.ref p) H'
theorem pe_sortItems (hu : X.A.units + 64 < cLine) (hc : X.calm = true) (he : PE X e te) (hg : Gl X "sorted") (hm : X.mg "sorted" = none) (hv : bootBuiltins "sorted" = some (.builtin "sorted")) (hbase : attributeBase e "items" X.env (eval e X.env) = eval e X.env := by rfl) (hline : (apos.endLine == cpos.line) = true := by rfl)
    (hs : starEach [.Call (.Attribute e "items" apos) [] [] cpos] X.env = (false, eval (.Call (.Attribute e "items" apos) [] [] cpos) X.env) :: starEach [] X.env := by rfl) :
    PE X (.Call (.Name "sorted" p) [.Call (.Attribute e "items" apos) [] [] cpos] [] pos) (tSortItems te) := by
  refine ⟨fun pins s σ H Q I hq => ?_⟩
  refine wpAny_Call_Name_kw (ld_blt I hg hm hv ?_)
  rw [hs]
  refine Calls.callWith_builtin rfl (Calls.evalArgs_plain ?_)
  show wpAny _ _ (spliced ((false, eval (.Call (.Attribute e "items" apos) [] [] cpos) X.env) :: backTo pos (starEach [] X.env))) _ _ s
  refine Calls.spliced_cons ?_
  refine wpAny_Call_method (T := "dict") (id := "dict.items") hbase rfl hline F.plainAttrs_dict F.slot_dict_items F.type_dict_items (thn (he.run pins s σ H _ I hq) fun u s1 ⟨x, H1, I1, rx, d, t, ex, hd, q⟩ => ?_)
  subst ex
  obtain rfl : u = Value.ref d := rx
  obtain ⟨hz, hs0, vs, kv, hdo⟩ := I1.hok d _ hd
  obtain ⟨ep, hat⟩ := hdo.dictAt
  have lk : (t.map toK).length = vs.length := Paired.length kv
  rw [List.length_map] at lk hz
  refine ⟨hdo.typeIs, hdo.mapOf.noDict, ?_⟩
  show wpAny _ _ (callWith cpos (.builtin "dict.items") [.ref d] [] []) _ X.xe s1
  refine method_meetsIn F.slot_dict_items F.entry_dict_items rfl (PySem.evalArgs_none ⟨rfl, hdo.typeIs, F.args_dict_items_1 _, _, meets_dict_items (mixKind X.prog X.w) d hs0, ⟨vs, hdo⟩, ?_⟩)
  refine Calls.spliced_nil ?_
  refine call_function_entry kind_sorted plain_sorted entry_sorted (args_sorted1 _) ?_
  unfold Builtin.«sorted»
  refine wpAny_bind (m := checkCount "sorted" 1 1 _) (wpAny_pure ?_)
  refine wpAny_bind (PySem.W.kdx_collect (A := X.A.in1) (knd := mixKind X.prog X.w) (kvs := vs) (ep := ep) (I1.ok.hd hc) ⟨_, Heap.get?_push_size _ rfl, rfl, rfl⟩ (hat.push _) (by omega) fun h' tk as hk hl hG => ?_)
  have hk' : ∀ b o, s1.heap.get? b = some o → h'.get? b = some o := fun b o e => hk b o (Heap.get?_push_of_some _ e)
  have hlow : s1.heap.objs.size < h'.objs.size := Heap.lt_size (hk s1.heap.objs.size _ (Heap.get?_push_size _ rfl))
  have nd : as.Nodup := List.Pairwise.imp (fun {a b} (h : a < b) => Nat.ne_of_lt h) hG.rise
  have lat : as.length = t.length := by omega
  have tupAt : ∀ (j : Nat) (a : Addr), as[j]? = some a → ∃ x, t[j]? = some x ∧ TupP h' a x := fun j a hj => by
    obtain ⟨key, k, v, f1, f2, f3⟩ := hG.pairs j a hj
    obtain ⟨x, hx, ek, t2, rfl⟩ := kv_ix kv f1
    subst ek
    rcases keyIs_shape (show keyIs (.inr (mk x.1)) key = true from f2) with ⟨i, t, z, _⟩ | ⟨y, t1, z, rfl⟩
    · exact nomatch z
    · injection z with z
      subst z
      exact ⟨x, hx, t1, t2, f3⟩
  have ea : PySem.W.EachIs (fun v x => ∃ a, v = Value.ref a ∧ (a ∈ as ∧ TupP h' a x)) (as.map Value.ref) t := each_ix (by rw [List.length_map]; exact lat) fun j u w h1 h2 => by
    rw [List.getElem?_map] at h1
    cases ha : as[j]? with
    | none =>
      rw [ha] at h1
      exact nomatch (show (none : Option Value) = some u from h1)
    | some a =>
      rw [ha] at h1
      obtain ⟨x, hx, tp⟩ := tupAt j a ha
      rw [hx] at h2
      cases h2
      exact ⟨a, (Option.some.inj h1).symm, List.mem_of_getElem? ha, tp⟩
  have hl2 : (as.map Value.ref).length ≤ sizeLine := by rw [List.length_map]; omega
  refine wpAny_bind (wpAny_newList ?_ hl2)
  have hD : (h'.push { cls := .type "list", data := .seq (as.map Value.ref).toArray }).get? h'.objs.size = some (seqObj "list" (as.map Value.ref).toArray 0) := Heap.get?_push_size _ rfl
  have kp : ∀ b o, h'.get? b = some o → (h'.push { cls := .type "list", data := .seq (as.map Value.ref).toArray }).get? b = some o := fun b o e => Heap.get?_push_of_some _ e
  refine wpAny_bind (wpAny_holding (PySem.W.list_sort_data (A := X.A.in1) (enc := encP) (R := fun v x => ∃ a, v = Value.ref a ∧ (a ∈ as ∧ TupP h' a x)) (s := { s1 with heap := h'.push { cls := .type "list", data := .seq (as.map Value.ref).toArray }, toks := tk }) hD ea
    (ea.mono fun v x r => ?_) (PySem.W.AllAlike.of fun _ _ => by simp [encP, PySem.W.alike, PySem.W.alikeAll]) (PySem.W.Sortable.tuples fun b => ⟨_, _, rfl⟩) (by omega) (fun b _ => ?_) fun out o1 o2 => ?_))
  · obtain ⟨a, rfl, _, t1, t2, tp⟩ := r
    exact ⟨[], .tuple (kp _ _ tp) rfl rfl (.cons (.str _ t1) (.cons (.int _ t2) .nil)), by simp⟩
  · have e1 : (encP b).depth ≤ 1 := by simp [encP, PyData.depth, PyData.depthAll]
    show X.A.units + 1 + 1 + (encP b).depth < cLine
    omega
  · refine wpAny_pure ⟨_, rfl, ?_⟩
    obtain ⟨ts, rfl, pt⟩ := refs_each o2
    obtain ⟨eF, heF⟩ := PyProof.Rows.sortedHeap_at (vs := as.map Value.ref) (out := (ts.map Value.ref).toArray) hD
    have kF : ∀ b o, b ≠ h'.objs.size → (h'.push { cls := .type "list", data := .seq (as.map Value.ref).toArray }).get? b = some o → (PyProof.Rows.sortedHeap (h'.push { cls := .type "list", data := .seq (as.map Value.ref).toArray }) h'.objs.size (as.map Value.ref) (ts.map Value.ref).toArray).get? b = some o := fun b o hb e => (PyProof.Rows.sortedHeap_old hb (Heap.lt_size e)).trans e
    have kH : ∀ b o, h'.get? b = some o → (PyProof.Rows.sortedHeap (h'.push { cls := .type "list", data := .seq (as.map Value.ref).toArray }) h'.objs.size (as.map Value.ref) (ts.map Value.ref).toArray).get? b = some o := fun b o e => kF b o (Nat.ne_of_lt (Heap.lt_size e)) (kp b o e)
    generalize hg : PyProof.Rows.sortedHeap (h'.push { cls := .type "list", data := .seq (as.map Value.ref).toArray }) h'.objs.size (as.map Value.ref) (ts.map Value.ref).toArray = g at kF kH heF ⊢
    have hn0 : H1 h'.objs.size = none := I1.hok.fresh (Nat.le_of_lt hlow)
    have I2 : Inv X pins σ H1 { s1 with heap := g, toks := tk } := I1.kept (t' := tk) fun b o e => kH b o (hk' b o e)
    have lts : ts.length = t.length := by
      have := Paired.length pt
      rw [List.length_mergeSort] at this
      exact this
    have I3 := I2.take (h' := g) (t' := tk) (fun b ob _ e => e) (I1.fpOk (Nat.le_of_lt hlow) hn0) (o := .lst (ts.map V.ref)) ⟨by rw [List.length_map]; omega, ts.map Value.ref, eF, vals_refs ts, heF⟩
    have above : ∀ a ∈ as, s1.heap.objs.size ≤ a := fun a ha => by
      have h1 := hG.above a ha
      rw [Heap.size_push] at h1
      exact Nat.le_of_lt (Nat.lt_of_le_of_lt (Nat.le_succ _) h1)
    have below : ∀ a ∈ as, a ≠ h'.objs.size := fun a ha => by
      obtain ⟨j, hj⟩ := List.mem_iff_getElem?.mp ha
      obtain ⟨x, _, _, _, tp⟩ := tupAt j a hj
      exact Nat.ne_of_lt (Heap.lt_size tp)
    obtain ⟨H2, I4, gr, qt⟩ := DX.takeT (h' := g) (tk := tk) (P := fun b vs => ∃ x, vs = [vS x.1, .int x.2] ∧ TupP h' b x) I1 as _ I3 nd fun a ha => by
      obtain ⟨j, hj⟩ := List.mem_iff_getElem?.mp ha
      obtain ⟨x, _, t1, t2, tp⟩ := tupAt j a hj
      refine ⟨above a ha, ?_, [vS x.1, .int x.2], ⟨x, rfl, t1, t2, tp⟩, fun H3 => ⟨by show 2 ≤ sizeLine; decide, [.str (mk x.1) t1, .int x.2 t2], .cons ⟨_, rfl⟩ (.cons ⟨_, rfl⟩ .nil), ⟨_, kH _ _ tp, rfl, 0, rfl⟩⟩⟩
      rw [upd_ne (below a ha)]
      exact I1.hok.fresh (above a ha)
    refine ⟨.ref h'.objs.size, H2, I4, rfl, q H2 h'.objs.size ts (fun b o e => gr b o (by rw [upd_ne (ne_of_none e hn0)]; exact e)) hn0 (gr _ _ upd_same) (Paired.mapP pt fun a x ⟨ha, tp⟩ => ?_)⟩
    obtain ⟨vs', ⟨y, ev, tq⟩, hH⟩ := qt a ha
    rw [hH, ev, tp.inj tq]
end
end Av

/-! The walks of the small defs: is_int, is_in, is_word, need_word, need_size, need_depth. -/
namespace Av
open PySem PySem.Spec PyProof.Rows L2

def topS (i : Nat) : Stmt := PySem.Challenge.pw_avoidwords_k22_whole_kinds.main.body.getD i (.Pass ⟨0, 0, 0, 0⟩)
abbrev sIsInt : Stmt := topS 9
abbrev sIsIn : Stmt := topS 10
abbrev sIsWord : Stmt := topS 11
abbrev sNeedWord : Stmt := topS 12
abbrev sNeedSize : Stmt := topS 13
abbrev sNeedDepth : Stmt := topS 18
/-- what the top has written, by name: built-ins that stand, constants -/
structure Txt (mg : Str → Option Value) : Prop where
  isi : mg "isinstance" = none
  int : mg "int" = none
  bool : mg "bool" = none
  str : mg "str" = none
  len : mg "len" = none
  all : mg "all" = none
  range : mg "range" = none
  tuple : mg "tuple" = none
  list : mg "list" = none
  sorted : mg "sorted" = none
  lets : ∃ t, mg "LETTERS" = some (.str "abcdefghijklmnopqrstuvwxyz" t)
  msize : ∃ t, mg "MOST_SIZE" = some (.int 6 t)
  mdepth : ∃ t, mg "MOST_DEPTH" = some (.int 6 t)
  mwords : ∃ t, mg "MOST_WORDS" = some (.int 5000 t)
  mlen : ∃ t, mg "MOST_LENGTH_kinds" = some (.int 40 t)
/-! ### loops over a text -/
theorem lc_its {x : Str} {g : TG} {tt : TT} {te : TE} {vs : List Nat} {σ : L2.St} {H1 : Hp} {D : Addr} {Qd : Hp → Prop} (Pv : Nat → Hp → Prop) (h0 : Pv 0 (upd H1 D (.lst [])))
    (hs : ∀ i c H, x.cps[i]? = some c → Pv i H → g (.str ⟨#[c]⟩) (wipe σ vs) H fun σ2 H2 => wipe σ2 vs = wipe σ vs ∧ tt σ2 H2 fun b H3 =>
      if b = true then te σ2 H3 fun y H4 => ∃ acc, H4 D = some (.lst acc) ∧ acc.length < sizeLine ∧ Pv (i + 1) (upd H4 D (.lst (acc ++ [y]))) else Pv (i + 1) H3) (hd : ∀ H, Pv x.cps.size H → Qd H) :
    ∃ W : Nat → Nat → Hp → Prop, (∃ m, W 0 m (upd H1 D (.lst []))) ∧ ∀ i m H, W i m H →
      ((Its x).stop i H ∧ Qd H) ∨ ((Its x).go i H ∧ ∃ Nx : Hp → Prop, (∀ H', Nx H' → ∃ m', m' < m ∧ W (i + 1) m' H') ∧ ∀ v H', (Its x).yld i H v H' → g v (wipe σ vs) H' fun σ2 H2 => wipe σ2 vs = wipe σ vs ∧ tt σ2 H2 fun b H3 =>
        if b = true then te σ2 H3 fun y H4 => ∃ acc, H4 D = some (.lst acc) ∧ acc.length < sizeLine ∧ Nx (upd H4 D (.lst (acc ++ [y]))) else Nx H3) := by
  refine ⟨fun i m H => m = x.cps.size - i ∧ i ≤ x.cps.size ∧ Pv i H, ⟨x.cps.size, by simp, Nat.zero_le _, h0⟩, ?_⟩
  rintro i m H ⟨rfl, hi, p⟩
  by_cases hlt : i < x.cps.size
  · refine .inr ⟨hlt, Pv (i + 1), fun H' p' => ⟨x.cps.size - (i + 1), by omega, rfl, hlt, p'⟩, fun v H' y => ?_⟩
    obtain ⟨e, c, hc, ev⟩ := y
    subst e ev
    exact hs i c _ hc p
  · have e : i = x.cps.size := by omega
    subst e
    exact .inl ⟨Nat.le_refl _, hd H p⟩
/-! ### promises -/
def spIsInt : Sp := fun vs H Q _ => ∃ n : Int, vs = [.int n] ∧ Q (.bl true) H
def spIsIn : Sp := fun vs H Q _ => ∃ n a b : Int, vs = [.int n, .int a, .int b] ∧ Q (.bl (decide (a ≤ n) && decide (n ≤ b))) H
def spIsWord : Sp := fun vs H Q _ => ∃ (w : List Nat) (m : Nat), vs = [vS w, .int m] ∧ Lw w ∧ w.length ≤ m ∧ m ≤ 1000 ∧ ∀ H', Same H H' → Q (.bl true) H'
def spNeedWord : Sp := fun vs H Q _ => ∃ w : List Nat, vs = [vS w] ∧ Lw w ∧ w.length ≤ 200 ∧ ∀ H', Same H H' → Q .non H'
def spNeed6 : Sp := fun vs H Q _ => ∃ n : Int, vs = [.int n] ∧ 1 ≤ n ∧ n ≤ 6 ∧ Q .non H
theorem small_w {w : List Nat} {m : Nat} (h : w.length ≤ m) (hm : m ≤ 1000) : (mk w).length ≤ sizeLine := by
  rw [mk_len, sizeLine_eq]
  omega
theorem same_upd {H : Hp} {p : Addr} {o : HO} (h : H p = none) : Same H (upd H p o) := fun b x e => by
  rw [upd_ne (ne_of_none e h)]
  exact e
section
variable {P : Program} {w : World} {K : PySem.W.Frag} {mg : Str → Option Value} {base : Heap}
theorem scIsInt : FnScope ["value"] ["value"] (defScope sIsInt) := ⟨rfl, rfl, rfl, by decide +kernel, rfl, by decide +kernel, by decide +kernel⟩
theorem ok_is_int {f : Addr} {fd : FuncData} (F : Fun K "is_int" "is_int" sIsInt f fd) (T : Txt mg) : FnOk P w K mg base CX0 1 f fd ["value"] spIsInt := by
  refine F.ok scIsInt (fun vs H Q E h => ?_) (fun cdv A outer s H vs Q E hr h => ?_)
  · obtain ⟨n, rfl, _⟩ := h
    rfl
  · obtain ⟨n, rfl, q⟩ := h
    refine ⟨_, pss_one (ps_ret (pe_and
      (pe_callB call_isi (by rfl) T.isi (by decide +kernel) (pa_cons (pv 0) (pa_cons (pe_bltn (v := .ty "int") (u := .type "int") (by rfl) T.int (by decide +kernel) rfl) pa_nil)))
      (pe_one (pe_not (pe_callB call_isi (by rfl) T.isi (by decide +kernel) (pa_cons (pv 0) (pa_cons (pe_bltn (v := .ty "bool") (u := .type "bool") (by rfl) T.bool (by decide +kernel) rfl) pa_nil))))))), ?_⟩
    refine ⟨.int n, rfl, .int n, .ty "int", .type "int", .type "int", true, rfl, .ty _, .base (.int n), kit_ty (by decide +kernel), true, rfl, iteT ?_⟩
    refine ⟨.int n, rfl, .int n, .ty "bool", .type "int", .type "bool", false, rfl, .ty _, .base (.int n), kit_ty (by decide +kernel), false, rfl, q⟩
theorem scIsIn : FnScope ["value", "least", "most"] ["value", "least", "most"] (defScope sIsIn) := ⟨rfl, rfl, rfl, by decide +kernel, rfl, by decide +kernel, by decide +kernel⟩
theorem ok_is_in {f fI : Addr} {fd fdI : FuncData} (F : Fun K "is_in" "is_in" sIsIn f fd) (GI : FnOk P w K mg base CX0 1 fI fdI ["value"] spIsInt) (gI : mg "is_int" = some (.ref fI)) (kI : PySem.W.keepIn K (.ref fI) = true) (bI : Binds K fdI ["value"] []) :
    FnOk P w K mg base CX0 2 f fd ["value", "least", "most"] spIsIn := by
  refine F.ok scIsIn (fun vs H Q E h => ?_) (fun cdv A outer s H vs Q E hr h => ?_)
  · obtain ⟨n, a, b, rfl, _⟩ := h
    rfl
  · obtain ⟨n, a, b, rfl, q⟩ := h
    refine ⟨_, pss_one (ps_ret (pe_and (pe_call GI hr (by rfl) gI kI bI .nil pass0 (pa_cons (pv 0) pa_nil))
      (pe_one (pe_chain op_le op_le (pv 1) (pv 0) (pv 2))))), ?_⟩
    refine ⟨.int n, rfl, n, rfl, true, rfl, iteT ?_⟩
    refine ⟨.int a, rfl, .int n, rfl, a, n, rfl, rfl, decide (a ≤ n), rfl, ?_⟩
    cases e : decide (a ≤ n) with
    | true =>
      rw [e] at q
      exact iteT ⟨.int b, rfl, n, b, rfl, rfl, q⟩
    | false =>
      rw [e] at q
      exact iteF q
theorem scIsWord : FnScope ["value", "most", "sign"] ["value", "most"] (defScope sIsWord) := ⟨rfl, rfl, rfl, by decide +kernel, rfl, by decide +kernel, by decide +kernel⟩
theorem ok_is_word {f : Addr} {fd : FuncData} (F : FunD K "is_word" "is_word" (defArgs sIsWord) (defBody sIsWord) (defScope sIsWord) [.int 200] [] f fd) (T : Txt mg) : FnOk P w K mg base CX0 1 f fd ["value", "most"] spIsWord := by
  refine F.ok scIsWord (fun vs H Q E h => ?_) (fun cdv A outer s H vs Q E hr h => ?_)
  · obtain ⟨z, m, rfl, _⟩ := h
    rfl
  · obtain ⟨z, m, rfl, lw, hl, hm, q⟩ := h
    obtain ⟨tl, gl⟩ := T.lets
    refine ⟨_, PSs.nox (pss_one (ps_ret (pe_and
      (pe_callB call_isi (by rfl) T.isi (by decide +kernel) (pa_cons (pv 0) (pa_cons (pe_bltn (v := .ty "str") (u := .type "str") (by rfl) T.str (by decide +kernel) rfl) pa_nil)))
      (pe_and (pe_cmpR op_le (pe_callB call_len (by rfl) T.len PySem.boot_len (pa_cons (pv 0) pa_nil)) (pv 1) (nomark _))
      (pe_one (pe_callB (cr_all rfl) (by rfl) T.all (by decide +kernel) (pa_cons
        (pe_lc (own := [("sign", 2)]) (g := gName 2) (tt := tYes) (by rfl) scIsWord.nd (pi_str (pv 0)) (blkOk_by (own := [("sign", 2)]) (N := ["value", "most", "sign"]) (sc := defScope sIsWord) (by decide +kernel))
          (fun _ _ _ _ _ => pg_name (i := 2) scIsWord.nd rfl (Or.inl rfl)) (fun _ _ _ _ _ => pts_nil)
          (fun _ _ _ _ _ => pe_cmpR op_in_sign (pv 2) (pe_glob (v := .str "abcdefghijklmnopqrstuvwxyz") (by rfl) gl ⟨_, rfl⟩) rfl)) pa_nil))))))), ?_⟩
    refine ⟨vS z, rfl, vS z, .ty "str", .type "str", .type "str", true, rfl, .ty _, .base (.str _), kit_ty (by decide +kernel), true, rfl, iteT ?_⟩
    refine ⟨vS z, rfl, vS z, _, rfl, ⟨small_w hl hm, rfl⟩, .int m, rfl, _, _, rfl, rfl, true, ?_, iteT ?_⟩
    · rw [mk_len]
      show V.bl (decide ((z.length : Int) ≤ (m : Int))) = V.bl true
      rw [decide_eq_true (by omega)]
    refine ⟨vS z, rfl, mk z, rfl, fun D nD => ?_⟩
    refine lc_its (x := mk z) (fun i H' => ∃ bs : List Bool, H' D = some (.lst (bs.map V.bl)) ∧ bs.length = i ∧ (∀ b ∈ bs, b = true) ∧ Same H H') ⟨[], upd_same, rfl, (fun b h => nomatch h), same_upd nD⟩ ?_ ?_
    · rintro i c H2 hc ⟨bs, h1, h2, h3, h4⟩
      have hcz : c ∈ z := by
        have := List.mem_of_getElem? (by rw [Array.getElem?_toList]; exact hc : (mk z).cps.toList[i]? = some c)
        rwa [mk_cps] at this
      have hi : i < z.length := by
        have := (Array.getElem?_eq_some_iff.mp hc).1
        have e : (mk z).cps.size = z.length := mk_len z
        omega
      refine ⟨rfl, ?_⟩
      refine ⟨.str ⟨#[c]⟩, rfl, c, _, rfl, rfl, bs.map V.bl, h1, by rw [List.length_map]; exact small1000 (by omega), bs ++ [true], ?_, by rw [List.length_append, h2]; rfl, fun b hb => ?_, fun b o e => ?_⟩
      · have e : decide (c ∈ (Str.ofString "abcdefghijklmnopqrstuvwxyz").cps.toList) = true := by
          have e2 : (Str.ofString "abcdefghijklmnopqrstuvwxyz").cps.toList = [97, 98, 99, 100, 101, 102, 103, 104, 105, 106, 107, 108, 109, 110, 111, 112, 113, 114, 115, 116, 117, 118, 119, 120, 121, 122] := by decide +kernel
          rw [e2]
          have := lw c hcz
          refine decide_eq_true ?_
          have : c = 97 ∨ c = 98 ∨ c = 99 ∨ c = 100 ∨ c = 101 ∨ c = 102 ∨ c = 103 ∨ c = 104 ∨ c = 105 ∨ c = 106 ∨ c = 107 ∨ c = 108 ∨ c = 109 ∨ c = 110 ∨ c = 111 ∨ c = 112 ∨ c = 113 ∨ c = 114 ∨ c = 115 ∨ c = 116 ∨ c = 117 ∨ c = 118 ∨ c = 119 ∨ c = 120 ∨ c = 121 ∨ c = 122 := by omega
          rcases this with rfl | rfl | rfl | rfl | rfl | rfl | rfl | rfl | rfl | rfl | rfl | rfl | rfl | rfl | rfl | rfl | rfl | rfl | rfl | rfl | rfl | rfl | rfl | rfl | rfl | rfl <;> decide
        rw [upd_same, e, List.map_append]
        rfl
      · rcases List.mem_append.mp hb with hb | hb
        · exact h3 b hb
        · exact List.mem_singleton.mp hb
      · have nb : b ≠ D := ne_of_none e nD
        rw [upd_ne nb]
        exact h4 b o e
    · rintro H2 ⟨bs, h1, h2, h3, h4⟩
      refine ⟨D, bs, rfl, SqL.of h1, ?_⟩
      have e : bs.all id = true := List.all_eq_true.mpr fun b hb => h3 b hb
      rw [e]
      exact q H2 h4
theorem scNeedWord : FnScope ["value"] ["value"] (defScope sNeedWord) := ⟨rfl, rfl, rfl, by decide +kernel, rfl, by decide +kernel, by decide +kernel⟩
theorem ok_need_word {f fI : Addr} {fd fdI : FuncData} {ds : List Value} (F : Fun K "need_word" "need_word" sNeedWord f fd) (GI : FnOk P w K mg base CX0 1 fI fdI ["value", "most"] spIsWord) (gI : mg "is_word" = some (.ref fI)) (kI : PySem.W.keepIn K (.ref fI) = true) (vI : Vals [.int 200] ds) (bI : Binds K fdI ["value", "most"] ds) :
    FnOk P w K mg base CX0 2 f fd ["value"] spNeedWord := by
  refine F.ok scNeedWord (fun vs H Q E h => ?_) (fun cdv A outer s H vs Q E hr h => ?_)
  · obtain ⟨n, rfl, _⟩ := h
    rfl
  · obtain ⟨z, rfl, lw, hl, q⟩ := h
    refine ⟨_, pss_one (ps_if (pt_not (pt_val (pe_call GI hr (by rfl) gI kI bI vI pass0 (pa_cons (pv 0) pa_nil)))) (pss_one ps_never) pss_nil), ?_⟩
    refine ⟨vS z, rfl, z, 200, rfl, lw, hl, by decide, fun H' sm => ⟨true, rfl, iteF ?_⟩⟩
    exact q H' sm
theorem scNeedSize : FnScope ["value"] ["value"] (defScope sNeedSize) := ⟨rfl, rfl, rfl, by decide +kernel, rfl, by decide +kernel, by decide +kernel⟩
theorem ok_need_size {f fI : Addr} {fd fdI : FuncData} (F : Fun K "need_size" "need_size" sNeedSize f fd) (T : Txt mg) (GI : FnOk P w K mg base CX0 2 fI fdI ["value", "least", "most"] spIsIn) (gI : mg "is_in" = some (.ref fI)) (kI : PySem.W.keepIn K (.ref fI) = true) (bI : Binds K fdI ["value", "least", "most"] []) :
    FnOk P w K mg base CX0 3 f fd ["value"] spNeed6 := by
  refine F.ok scNeedSize (fun vs H Q E h => ?_) (fun cdv A outer s H vs Q E hr h => ?_)
  · obtain ⟨n, rfl, _⟩ := h
    rfl
  · obtain ⟨n, rfl, h1, h2, q⟩ := h
    obtain ⟨tl, gl⟩ := T.msize
    refine ⟨_, pss_one (ps_if (pt_not (pt_val (pe_call GI hr (by rfl) gI kI bI .nil pass0 (pa_cons (pv 0) (pa_cons pe_int (pa_cons (pe_glob (v := .int 6) (by rfl) gl ⟨_, rfl⟩) pa_nil)))))) (pss_one ps_never) pss_nil), ?_⟩
    refine ⟨.int n, rfl, n, 1, 6, rfl, true, ?_, iteF q⟩
    rw [decide_eq_true h1, decide_eq_true h2]
    rfl
theorem scNeedDepth : FnScope ["value"] ["value"] (defScope sNeedDepth) := ⟨rfl, rfl, rfl, by decide +kernel, rfl, by decide +kernel, by decide +kernel⟩
theorem ok_need_depth {f fI : Addr} {fd fdI : FuncData} (F : Fun K "need_depth" "need_depth" sNeedDepth f fd) (T : Txt mg) (GI : FnOk P w K mg base CX0 2 fI fdI ["value", "least", "most"] spIsIn) (gI : mg "is_in" = some (.ref fI)) (kI : PySem.W.keepIn K (.ref fI) = true) (bI : Binds K fdI ["value", "least", "most"] []) :
    FnOk P w K mg base CX0 3 f fd ["value"] spNeed6 := by
  refine F.ok scNeedDepth (fun vs H Q E h => ?_) (fun cdv A outer s H vs Q E hr h => ?_)
  · obtain ⟨n, rfl, _⟩ := h
    rfl
  · obtain ⟨n, rfl, h1, h2, q⟩ := h
    obtain ⟨tl, gl⟩ := T.mdepth
    refine ⟨_, pss_one (ps_if (pt_not (pt_val (pe_call GI hr (by rfl) gI kI bI .nil pass0 (pa_cons (pv 0) (pa_cons pe_int (pa_cons (pe_glob (v := .int 6) (by rfl) gl ⟨_, rfl⟩) pa_nil)))))) (pss_one ps_never) pss_nil), ?_⟩
    refine ⟨.int n, rfl, n, 1, 6, rfl, true, ?_, iteF q⟩
    rw [decide_eq_true h1, decide_eq_true h2]
    rfl
end
end Av

/-! The walks of table_of, part_table, are_alike. -/
namespace Av
open PySem PySem.Spec PyProof.Rows L2

abbrev sTableOf : Stmt := topS 19
abbrev sPartTable : Stmt := topS 20
abbrev sAreAlike : Stmt := topS 21
theorem val_toK (t : Tb) (p : List Nat) : (valV (t.map toK) (.inr (mk p) : Key)).getD (.int 0) = .int (look t p) := by
  unfold look
  induction t with
  | nil => rfl
  | cons x t ih =>
    rw [List.map_cons]
    by_cases e : x.1 = p
    · rw [valV_pos (p := toK x) (by show (Sum.inr (mk x.1) : Key) = .inr (mk p); rw [e]), List.find?_cons_of_pos (by simpa using e)]
      rfl
    · rw [valV_neg (p := toK x) (fun z => e (mk_inj (Sum.inr.inj z))), List.find?_cons_of_neg (by simpa using e)]
      exact ih
theorem put_toK (t : Tb) (p : List Nat) (n : Int) : putK (t.map toK) (.inr (mk p) : Key) (.int n) = (put t p n).map toK := by
  have dk : ∀ x : List Nat × Int, decide ((toK x).1 = (.inr (mk p) : Key)) = decide (x.1 = p) := fun x => by
    rw [Bool.eq_iff_iff, decide_eq_true_iff, decide_eq_true_iff]
    constructor
    · intro h
      exact mk_inj (Sum.inr.inj h)
    · intro h
      show (Sum.inr (mk x.1) : Key) = _
      rw [h]
  have ea : ((t.map toK).any fun kv => decide (kv.1 = (.inr (mk p) : Key))) = t.any fun x => decide (x.1 = p) := by
    rw [List.any_map]
    congr 1
    funext x
    exact dk x
  unfold putK put
  rw [ea]
  split
  · rw [List.map_map, List.map_map]
    refine List.map_congr_left fun x _ => ?_
    have h := dk x
    show (if (toK x).1 = (.inr (mk p) : Key) then ((toK x).1, V.int n) else toK x) = toK (if x.1 = p then (x.1, n) else x)
    by_cases e : x.1 = p
    · rw [if_pos e, if_pos (of_decide_eq_true (by rw [h]; exact decide_eq_true e))]
      rfl
    · rw [if_neg e, if_neg (of_decide_eq_false (by rw [h]; exact decide_eq_false e))]
  · rw [List.map_append]
    rfl
theorem cut_part (w : List Nat) (i k : Nat) (h : k < w.length - i) : cutS (mk w) (some ((0 : Int) + k)) (some ((0 : Int) + k + (1 + i))) = mk (part w i k) := by
  have e1 : ((0 : Int) + k) = (k : Nat) := by omega
  have e2 : ((0 : Int) + k + (1 + i)) = ((k + i + 1 : Nat) : Int) := by omega
  unfold cutS
  rw [e2, e1, HT.sIx_nat, HT.sIx_nat, mk_len, mk_cps]
  unfold mk part
  have e3 : min k w.length = k := by omega
  have e4 : min (k + i + 1) w.length - min k w.length = i + 1 := by omega
  rw [e4, e3]
def spTable : Sp := fun vs H Q _ => ∃ (w : List Nat) (d : Nat), vs = [vS w, .int d] ∧ w.length ≤ 200 ∧ d ≤ 6 ∧ ∀ H' p, Same H H' → TabAt H' p (tab w d) → Q (.ref p) H'
def spPart : Sp := fun vs H Q _ => ∃ (w : List Nat) (d : Nat), vs = [vS w, .int d] ∧ Lw w ∧ w.length ≤ 200 ∧ 1 ≤ d ∧ d ≤ 6 ∧ ∀ H' p, Same H H' → TabAt H' p (tab w d) → Q (.ref p) H'
def spAlike : Sp := fun vs H Q _ => ∃ (v w : List Nat) (d : Nat), vs = [vS v, vS w, .int d] ∧ Lw v ∧ v.length ≤ 200 ∧ Lw w ∧ w.length ≤ 200 ∧ 1 ≤ d ∧ d ≤ 6 ∧ ∀ H', Same H H' → Q (.bl (decide (tab v d = tab w d))) H'
section
variable {P : Program} {w : World} {K : PySem.W.Frag} {mg : Str → Option Value} {base : Heap}
theorem scTab : FnScope ["word", "depth", "counts", "length", "at", "part"] ["word", "depth"] (defScope sTableOf) := ⟨rfl, rfl, rfl, by decide +kernel, rfl, by decide +kernel, by decide +kernel⟩
theorem ok_table {f : Addr} {fd : FuncData} (F : Fun K "table_of" "table_of" sTableOf f fd) (T : Txt mg) : FnOk P w K mg base CX0 1 f fd ["word", "depth"] spTable := by
  refine F.ok scTab (fun vs H Q E h => ?_) (fun cdv A outer s H vs Q E hr h => ?_)
  · obtain ⟨z, d, rfl, _⟩ := h
    rfl
  · obtain ⟨z, d, rfl, hz, hd, q⟩ := h
    have hu := hu_of hr
    have hu64 := hr.units
    refine ⟨_, pss_cons (ps_set (i := 2) scTab.nd rfl (.inl rfl) pe_dnewK)
      (pss_cons (ps_for PassesOwn.never rfl (pi_range2 (by rfl) T.range (pa_cons pe_int (pa_cons (pe_op op_add (pv 1) pe_int) pa_nil))) (pg_name (i := 3) scTab.nd rfl (.inl rfl))
        (pss_one (ps_for PassesOwn.never rfl (pi_range1 (by rfl) T.range (pa_cons (pe_op op_add (pe_op op_sub (pe_callB call_len (by rfl) T.len PySem.boot_len (pa_cons (pv 0) pa_nil)) (pv 3)) pe_int) pa_nil)) (pg_name (i := 4) scTab.nd rfl (.inl rfl))
          (pss_cons (ps_set (i := 5) scTab.nd rfl (.inl rfl) (pe_slice sl_str (pv 0) (po_some (pv 4)) (po_some (pe_op op_add (pv 4) (pv 3)))))
          (pss_one (ps_dput hu (pv 2) (pv 5) (pe_op op_add (pe_dget2 hu (pv 2) (pv 5) pe_int ⟨rfl, rfl, rfl, rfl⟩) pe_int) rfl))))))
      (pss_one (ps_ret (pe_callTy call_tuple_of (by rfl) T.tuple (by decide +kernel) (pa_cons (pe_sortItems hu64 rfl (pv 2) (by rfl) T.sorted (by decide +kernel)) pa_nil))))), ?_⟩
    -- counts = {}
    intro c nc
    have s1 : Same H (upd H c (.dK [])) := same_upd nc
    -- for length in range(1, depth + 1)
    refine ⟨.int d, rfl, d, 1, rfl, rfl, 1, (d : Int) + 1, rfl, ⟨by omega, by omega, by omega, by omega⟩, ?_⟩
    refine for_range (lo := 1) (n := ((d : Int) + 1 - 1).toNat) (fun i σ H2 => ∃ y3 y4 y5, σ = [some (vS z), some (.int d), some (.ref c), y3, y4, y5] ∧ Same H H2 ∧ H2 c = some (.dK ((tab0 z i).map toK)))
      ⟨none, none, none, rfl, s1, upd_same⟩ ?_ ?_
    · rintro i σ H2 hi ⟨y3, y4, y5, rfl, sm, hc⟩
      have hid : i < d := by omega
      -- for at in range(len(word) - length + 1)
      refine ⟨vS z, rfl, vS z, _, rfl, ⟨small_w hz (by decide), rfl⟩, _, rfl, _, _, rfl, rfl, _, _, rfl, rfl, _, rfl, ?_, ?_, ?_⟩
      · rw [mk_len]; omega
      · rw [mk_len]; omega
      refine for_range (lo := 0) (n := (((mk z).length : Int) - (1 + i) + 1).toNat) (fun k σ H3 => ∃ y4 y5, σ = [some (vS z), some (.int d), some (.ref c), some (.int (1 + i)), y4, y5] ∧ Same H H3 ∧ H3 c = some (.dK ((tabAt z i (tab0 z i) k).map toK)))
        ⟨y4, y5, rfl, sm, hc⟩ ?_ ?_
      · rintro k σ H3 hk ⟨y4, y5, rfl, sm3, hc3⟩
        rw [mk_len] at hk
        have hk' : k < z.length - i := by omega
        -- part = word[at:at + length]
        refine ⟨vS z, rfl, _, rfl, _, rfl, _, rfl, _, rfl, _, _, rfl, rfl, _, rfl, mk z, rfl, small_w hz (by decide), ?_⟩
        show _
        rw [cut_part z i k hk']
        -- counts[part] = counts.get(part, 0) + 1
        refine ⟨.ref c, rfl, c, rfl, .inl ⟨_, .inl hc3⟩, _, rfl, _, DGet.k (k := Sum.inr (mk (part z i k))) hc3, ?_⟩
        rw [val_toK]
        refine ⟨_, _, rfl, rfl, .ref c, rfl, _, rfl, c, _, rfl, DPut.k (k := Sum.inr (mk (part z i k))) hc3 ?_, _, _, rfl, fun b o e => ?_, ?_⟩
        · rw [List.length_map]
          have h1 := tabAt_len z i (tab0 z i) k
          have h2 := tab0_len z i
          have h3 : i * z.length ≤ 6 * 200 := Nat.mul_le_mul (by omega) hz
          rw [sizeLine_eq]
          omega
        · have nb : b ≠ c := ne_of_none e nc
          rw [upd_ne nb]
          exact sm3 b o e
        · rw [upd_same, put_toK, tabAt_succ]
          rfl
      · rintro σ H3 ⟨y4, y5, rfl, sm3, hc3⟩
        refine ⟨_, _, _, rfl, sm3, ?_⟩
        have e : (((mk z).length : Int) - (1 + i) + 1).toNat = z.length - i := by rw [mk_len]; omega
        rw [e] at hc3
        exact hc3
    · rintro σ H2 ⟨y3, y4, y5, rfl, sm, hc⟩
      have e : ((d : Int) + 1 - 1).toNat = d := by omega
      rw [e] at hc
      -- return tuple(sorted(counts.items()))
      refine ⟨.ref c, rfl, c, tab0 z d, rfl, hc, fun H3 p ts sm3 np hp pt => ?_⟩
      refine ⟨p, _, rfl, .inl ⟨SqL.of hp, fun l nl => ?_⟩⟩
      have s4 : Same H3 (upd H3 l (.tup (ts.map V.ref))) := same_upd nl
      exact q _ l ((sm.trans sm3).trans s4) ⟨ts, upd_same, Paired.mapP pt fun _ _ e => s4 _ _ e⟩
theorem scPart : FnScope ["word", "depth"] ["word", "depth"] (defScope sPartTable) := ⟨rfl, rfl, rfl, by decide +kernel, rfl, by decide +kernel, by decide +kernel⟩
theorem ok_part {f fW fD fT : Addr} {fd fdW fdD fdT : FuncData} (F : Fun K "part_table" "part_table" sPartTable f fd)
    (GW : FnOk P w K mg base CX0 2 fW fdW ["value"] spNeedWord) (gW : mg "need_word" = some (.ref fW)) (kW : PySem.W.keepIn K (.ref fW) = true) (bW : Binds K fdW ["value"] [])
    (GD : FnOk P w K mg base CX0 3 fD fdD ["value"] spNeed6) (gD : mg "need_depth" = some (.ref fD)) (kD : PySem.W.keepIn K (.ref fD) = true) (bD : Binds K fdD ["value"] [])
    (GT : FnOk P w K mg base CX0 1 fT fdT ["word", "depth"] spTable) (gT : mg "table_of" = some (.ref fT)) (kT : PySem.W.keepIn K (.ref fT) = true) (bT : Binds K fdT ["word", "depth"] []) :
    FnOk P w K mg base CX0 4 f fd ["word", "depth"] spPart := by
  refine F.ok scPart (fun vs H Q E h => ?_) (fun cdv A outer s H vs Q E hr h => ?_)
  · obtain ⟨z, d, rfl, _⟩ := h
    rfl
  · obtain ⟨z, d, rfl, lw, hz, h1, hd, q⟩ := h
    refine ⟨_, pss_cons (ps_expr (pe_call GW (hr.mono (by decide)) (by rfl) gW kW bW .nil pass0 (pa_cons (pv 0) pa_nil)))
      (pss_cons (ps_expr (pe_call GD hr (by rfl) gD kD bD .nil pass0 (pa_cons (pv 1) pa_nil)))
      (pss_one (ps_ret (pe_call GT (hr.mono (by decide)) (by rfl) gT kT bT .nil pass0 (pa_cons (pv 0) (pa_cons (pv 1) pa_nil)))))), ?_⟩
    refine ⟨vS z, rfl, z, rfl, lw, hz, fun H1 s1 => ?_⟩
    refine ⟨.int d, rfl, d, rfl, by omega, by omega, ?_⟩
    exact ⟨vS z, rfl, .int d, rfl, z, d, rfl, hz, hd, fun H2 p s2 tp => q H2 p (s1.trans s2) tp⟩
theorem scAlike : FnScope ["one", "other", "depth"] ["one", "other", "depth"] (defScope sAreAlike) := ⟨rfl, rfl, rfl, by decide +kernel, rfl, by decide +kernel, by decide +kernel⟩
theorem ok_alike {f fW fD fT : Addr} {fd fdW fdD fdT : FuncData} (F : Fun K "are_alike" "are_alike" sAreAlike f fd)
    (GW : FnOk P w K mg base CX0 2 fW fdW ["value"] spNeedWord) (gW : mg "need_word" = some (.ref fW)) (kW : PySem.W.keepIn K (.ref fW) = true) (bW : Binds K fdW ["value"] [])
    (GD : FnOk P w K mg base CX0 3 fD fdD ["value"] spNeed6) (gD : mg "need_depth" = some (.ref fD)) (kD : PySem.W.keepIn K (.ref fD) = true) (bD : Binds K fdD ["value"] [])
    (GT : FnOk P w K mg base CX0 1 fT fdT ["word", "depth"] spTable) (gT : mg "table_of" = some (.ref fT)) (kT : PySem.W.keepIn K (.ref fT) = true) (bT : Binds K fdT ["word", "depth"] []) :
    FnOk P w K mg base CX0 4 f fd ["one", "other", "depth"] spAlike := by
  refine F.ok scAlike (fun vs H Q E h => ?_) (fun cdv A outer s H vs Q E hr h => ?_)
  · obtain ⟨y, z, d, rfl, _⟩ := h
    rfl
  · obtain ⟨y, z, d, rfl, ly, hy, lz, hz, h1, hd, q⟩ := h
    refine ⟨_, pss_cons (ps_expr (pe_call GW (hr.mono (by decide)) (by rfl) gW kW bW .nil pass0 (pa_cons (pv 0) pa_nil)))
      (pss_cons (ps_expr (pe_call GW (hr.mono (by decide)) (by rfl) gW kW bW .nil pass0 (pa_cons (pv 1) pa_nil)))
      (pss_cons (ps_expr (pe_call GD hr (by rfl) gD kD bD .nil pass0 (pa_cons (pv 2) pa_nil)))
      (pss_one (ps_ret (pe_cmpR (op_eqD hr.units) (pe_call GT (hr.mono (by decide)) (by rfl) gT kT bT .nil pass0 (pa_cons (pv 0) (pa_cons (pv 2) pa_nil)))
        (pe_call GT (hr.mono (by decide)) (by rfl) gT kT bT .nil pass0 (pa_cons (pv 1) (pa_cons (pv 2) pa_nil))) (nomark _)))))), ?_⟩
    refine ⟨vS y, rfl, y, rfl, ly, hy, fun H1 s1 => ?_⟩
    refine ⟨vS z, rfl, z, rfl, lz, hz, fun H2 s2 => ?_⟩
    refine ⟨.int d, rfl, d, rfl, by omega, by omega, ?_⟩
    refine ⟨vS y, rfl, .int d, rfl, y, d, rfl, hy, hd, fun H3 p s3 tp => ?_⟩
    refine ⟨vS z, rfl, .int d, rfl, z, d, rfl, hz, hd, fun H4 r s4 tr => ?_⟩
    refine ⟨_, _, (tp.same s4).dp, tr.dp, shaped_tab (lt_tab ly d), shaped_tab (lt_tab lz d), ?_⟩
    rw [eqv_tabs]
    exact q H4 (((s1.trans s2).trans s3).trans s4)
end
end Av

/-! The walk of kinds. -/
namespace Av
open PySem PySem.Spec PyProof.Rows L2

abbrev sKinds : Stmt := topS 22
def ext (size : Nat) (r : List Nat) : List (List Nat) := (lets size).map fun c => r ++ [c]
theorem allW_succ (size n : Nat) : allW size (n + 1) = (allW size n).flatMap (ext size) := rfl
def kindsL (size n d : Nat) : List (List Nat) := ((firsts (fun w => tab w d) (allW size n)).map (·.2)).mergeSort leS
theorem str_nil : (Str.ofString "" : Str) = mk [] := by decide +kernel
theorem cut_lets {size : Nat} (h : 1 ≤ size ∧ size ≤ 3) : cutS (Str.ofString "abcdefghijklmnopqrstuvwxyz") none (some (size : Int)) = mk (lets size) := by
  have : size = 1 ∨ size = 2 ∨ size = 3 := by omega
  rcases this with rfl | rfl | rfl <;> decide +kernel
theorem ab_len : (Str.ofString "abcdefghijklmnopqrstuvwxyz").length ≤ sizeLine := by
  rw [sizeLine_eq]
  decide +kernel
theorem flat_take {size : Nat} {ws : List (List Nat)} {i : Nat} {r : List Nat} (h : ws[i]? = some r) : (ws.take (i + 1)).flatMap (ext size) = (ws.take i).flatMap (ext size) ++ ext size r := by
  rw [List.take_add_one, h, List.flatMap_append]
  simp
theorem ext_take {size : Nat} {r : List Nat} {j c : Nat} (h : (lets size)[j]? = some c) : (ext size r).take (j + 1) = (ext size r).take j ++ [r ++ [c]] := by
  unfold ext
  rw [List.take_add_one, List.getElem?_map, h]
  rfl
theorem mk_add (r : List Nat) (c : Nat) : mk r ++ (⟨#[c]⟩ : Str) = mk (r ++ [c]) := by
  show Str.append (mk r) ⟨#[c]⟩ = mk (r ++ [c])
  unfold mk
  simp [Str.append]
theorem get_vS {ws : List (List Nat)} {i : Nat} {x : V} (h : (ws.map vS)[i]? = some x) : ∃ r, ws[i]? = some r ∧ x = vS r := by
  rw [List.getElem?_map] at h
  cases e : ws[i]? with
  | none =>
    rw [e] at h
    exact nomatch (show (none : Option V) = some x from h)
  | some r =>
    rw [e] at h
    exact ⟨r, rfl, (Option.some.inj h).symm⟩
theorem ND.same {P : Program} {w : World} {H H' : Hp} {d : Addr} {kvs : List (Tb × V)} (s : Same H H') (n : ND P w H d kvs) : ND P w H' d kvs := by
  obtain ⟨h1, h2, h3, xs, h4, h5⟩ := n
  exact ⟨h1, h2, h3, xs, s _ _ h4, h5.same fun b ys e => s _ _ e⟩
/-- the pairs of a dict from tables to first words -/
def kvF (acc : List (Tb × List Nat)) : List (Tb × V) := acc.map fun p => (p.1, vS p.2)
theorem kvF_any (acc : List (Tb × List Nat)) (t : Tb) : (valV (kvF acc) t).isSome = acc.any fun p => decide (p.1 = t) := by
  rw [← valV_any]
  unfold kvF
  rw [List.any_map]
  rfl
theorem kvF_step {f : List Nat → Tb} {acc : List (Tb × List Nat)} {r : List Nat} (h : valV (kvF acc) (f r) = none) : kvF (step f acc r) = kvF acc ++ [(f r, vS r)] := by
  have q := kvF_any acc (f r)
  rw [h] at q
  unfold step
  rw [← q, if_neg (by simp)]
  unfold kvF
  rw [List.map_append]
  rfl
theorem kvF_stay {f : List Nat → Tb} {acc : List (Tb × List Nat)} {r : List Nat} {v : V} (h : valV (kvF acc) (f r) = some v) : step f acc r = acc := by
  have q := kvF_any acc (f r)
  rw [h] at q
  unfold step
  rw [← q]
  rfl
theorem kvF_len (acc : List (Tb × List Nat)) : (kvF acc).length = acc.length := by
  unfold kvF
  rw [List.length_map]
theorem firsts_take {f : List Nat → Tb} {ws : List (List Nat)} {i : Nat} {r : List Nat} (h : ws[i]? = some r) : firsts f (ws.take (i + 1)) = step f (firsts f (ws.take i)) r := by
  rw [List.take_add_one, h]
  exact firsts_snoc f _ r
def spKinds : Sp := fun vs H Q _ => ∃ size n d : Nat, vs = [.int size, .int n, .int d] ∧ Bnd size n ∧ 1 ≤ d ∧ d ≤ 6 ∧ ∀ H' p, Same H H' → H' p = some (.lst ((kindsL size n d).map vS)) → Q (.ref p) H'
section
variable {P : Program} {w : World} {K : PySem.W.Frag} {mg : Str → Option Value} {base : Heap}
theorem scKinds : FnScope ["size", "length", "depth", "rows", "turn", "row", "found", "sign"] ["size", "length", "depth"] (defScope sKinds) := ⟨rfl, rfl, rfl, by decide +kernel, rfl, by decide +kernel, by decide +kernel⟩
theorem ok_kinds {f fS fI fD fT : Addr} {fd fdS fdI fdD fdT : FuncData} (F : Fun K "kinds" "kinds" sKinds f fd) (T : Txt mg)
    (GS : FnOk P w K mg base CX0 3 fS fdS ["value"] spNeed6) (gS : mg "need_size" = some (.ref fS)) (kS : PySem.W.keepIn K (.ref fS) = true) (bS : Binds K fdS ["value"] [])
    (GI : FnOk P w K mg base CX0 2 fI fdI ["value", "least", "most"] spIsIn) (gI : mg "is_in" = some (.ref fI)) (kI : PySem.W.keepIn K (.ref fI) = true) (bI : Binds K fdI ["value", "least", "most"] [])
    (GD : FnOk P w K mg base CX0 3 fD fdD ["value"] spNeed6) (gD : mg "need_depth" = some (.ref fD)) (kD : PySem.W.keepIn K (.ref fD) = true) (bD : Binds K fdD ["value"] [])
    (GT : FnOk P w K mg base CX0 1 fT fdT ["word", "depth"] spTable) (gT : mg "table_of" = some (.ref fT)) (kT : PySem.W.keepIn K (.ref fT) = true) (bT : Binds K fdT ["word", "depth"] []) :
    FnOk P w K mg base CX0 4 f fd ["size", "length", "depth"] spKinds := by
  refine F.ok scKinds (fun vs H Q E h => ?_) (fun cdv A outer s H vs Q E hr h => ?_)
  · obtain ⟨size, n, d, rfl, _⟩ := h
    rfl
  · obtain ⟨size, n, d, rfl, hb, h1, hd, q⟩ := h
    obtain ⟨tl, gl⟩ := T.lets
    obtain ⟨tm, gm⟩ := T.mlen
    obtain ⟨tw, gw⟩ := T.mwords
    have hu64 := hr.units
    have hsz := hb.size
    have hn := hb.len
    refine ⟨_, pss_cons (ps_expr (pe_call GS hr (by rfl) gS kS bS .nil pass0 (pa_cons (pv 0) pa_nil)))
      (pss_cons (ps_if (pt_not (pt_val (pe_call GI (hr.mono (by decide)) (by rfl) gI kI bI .nil pass0 (pa_cons (pv 1) (pa_cons pe_int (pa_cons (pe_glob (v := .int 40) (by rfl) gm ⟨_, rfl⟩) pa_nil)))))) (pss_one ps_never) pss_nil)
      (pss_cons (ps_expr (pe_call GD hr (by rfl) gD kD bD .nil pass0 (pa_cons (pv 2) pa_nil)))
      (pss_cons (ps_set (i := 3) scKinds.nd rfl (.inl rfl) (pe_lst (pa_cons pe_str pa_nil)))
      (pss_cons (ps_for PassesOwn.never rfl (pi_range1 (by rfl) T.range (pa_cons (pv 1) pa_nil)) (pg_name (i := 4) scKinds.nd rfl (.inl rfl))
        (pss_cons (ps_setLc2 (i := 3) (own := [("row", 5), ("sign", 7)]) (vs1 := [7]) (g := gName 5) (tt := tYes) (g1 := gName 7) (tt1 := tYes) rfl scKinds.nd rfl rfl (sw_true rfl rfl rfl (by decide +kernel)) (pi_list (pv 3))
            (blkOk_by (own := [("row", 5), ("sign", 7)]) (N := ["size", "length", "depth", "rows", "turn", "row", "found", "sign"]) (sc := defScope sKinds) (by decide +kernel)) (by decide)
            (fun _ _ _ _ _ => pg_name (i := 5) scKinds.nd rfl (Or.inl rfl)) (fun _ _ _ _ _ => pts_nil)
            (fun _ _ _ _ _ => pi_str (pe_slice sl_str (pe_glob (v := .str "abcdefghijklmnopqrstuvwxyz") (by rfl) gl ⟨_, rfl⟩) po_none (po_some (pv 0))))
            (fun _ _ _ _ _ => pg_name (i := 7) scKinds.nd rfl (Or.inl rfl)) (fun _ _ _ _ _ => pts_nil)
            (fun _ _ _ _ _ => pe_op op_add_str (pv 5) (pv 7)))
        (pss_one (ps_if (pt_cmpR op_gt (pe_callB call_len (by rfl) T.len PySem.boot_len (pa_cons (pv 3) pa_nil)) (pe_glob (v := .int 5000) (by rfl) gw ⟨_, rfl⟩) (nomark _)) (pss_one ps_never) pss_nil))))
      (pss_cons (ps_set (i := 6) scKinds.nd rfl (.inl rfl) pe_ndnew)
      (pss_cons (ps_for PassesOwn.never rfl (pi_list (pv 3)) (pg_name (i := 5) scKinds.nd rfl (.inl rfl))
        (pss_one (ps_expr (pe_ndsetd hu64 (pv 6) (pe_call GT (hr.mono (by decide)) (by rfl) gT kT bT .nil pass0 (pa_cons (pv 5) (pa_cons (pv 2) pa_nil))) (pv 5) ⟨rfl, rfl, rfl, rfl⟩))))
      (pss_one (ps_ret (pe_sortVals hu64 rfl (pv 6) (by rfl) T.sorted (by decide +kernel)))))))))), ?_⟩
    -- need_size(size); if not is_in(length, ..); need_depth(depth)
    refine ⟨.int size, rfl, size, rfl, by omega, by omega, ?_⟩
    refine ⟨.int n, rfl, n, 0, 40, rfl, true, ?_, iteF ?_⟩
    · rw [decide_eq_true (by omega), decide_eq_true (by omega)]
      rfl
    refine ⟨.int d, rfl, d, rfl, by omega, by omega, ?_⟩
    -- rows = [""]
    refine ⟨by show 1 ≤ sizeLine; decide, fun a0 na0 => ?_⟩
    have s1 := same_upd (o := .lst [V.str (Str.ofString "")]) na0
    -- for turn in range(length)
    refine ⟨.int n, rfl, n, rfl, by omega, by omega, ?_⟩
    refine for_range (lo := 0) (n := (n : Int).toNat) (fun t σ H2 => ∃ (a : Addr) (y4 : Option V), σ = [some (.int size), some (.int n), some (.int d), some (.ref a), y4, none, none, none] ∧ Same H H2 ∧ H2 a = some (.lst ((allW size t).map vS)))
      ⟨a0, none, rfl, s1, ?_⟩ ?_ ?_
    · rw [upd_same, str_nil]
      rfl
    · rintro t σ H2 ht ⟨a, y4, rfl, sm, ha⟩
      have htn : t < n := by omega
      -- rows = [row + sign for row in rows for sign in LETTERS[:size]]
      refine ⟨.ref a, rfl, a, rfl, ⟨_, SqL.of ha⟩, fun D nD => ?_⟩
      have sD : Same H2 (upd H2 D (.lst [])) := same_upd nD
      have few : (allW size (t + 1)).length ≤ 243 := hb.few (t + 1) (by omega)
      refine ⟨fun i m H3 => m = (allW size t).length - i ∧ i ≤ (allW size t).length ∧ Same H2 H3 ∧ H3 D = some (.lst ((((allW size t).take i).flatMap (ext size)).map vS)), ⟨(allW size t).length, rfl, Nat.zero_le _, sD, by rw [upd_same]; rfl⟩, ?_⟩
      rintro i m H3 ⟨rfl, hi, s3, hD⟩
      have hA : SqL K H3 a ((allW size t).map vS) := SqL.of (s3 _ _ ha)
      by_cases hlt : i < (allW size t).length
      · obtain ⟨r, hr0⟩ : ∃ r, (allW size t)[i]? = some r := ⟨_, List.getElem?_eq_getElem hlt⟩
        have hr1 : ((allW size t).map vS)[i]? = some (vS r) := by rw [List.getElem?_map, hr0]; rfl
        have rm : r ∈ allW size t := List.mem_of_getElem? hr0
        refine .inr ⟨⟨_, _, hA, hr1⟩, fun H4 => Same H2 H4 ∧ H4 D = some (.lst ((((allW size t).take (i + 1)).flatMap (ext size)).map vS)), fun H4 ⟨z1, z2⟩ => ⟨(allW size t).length - (i + 1), by omega, rfl, hlt, z1, z2⟩, fun x H4 hy => ?_⟩
        obtain ⟨rfl, hx⟩ := hy
        have ex : x = vS r := Option.some.inj ((hx _ hA).symm.trans hr1)
        subst ex
        refine ⟨rfl, ?_⟩
        -- LETTERS[:size]
        refine ⟨.int size, rfl, size, rfl, _, rfl, ab_len, _, rfl, ?_⟩
        rw [cut_lets hsz]
        refine ⟨fun j k H5 => k = (lets size).length - j ∧ j ≤ (lets size).length ∧ Same H2 H5 ∧ H5 D = some (.lst ((((allW size t).take i).flatMap (ext size) ++ (ext size r).take j).map vS)), ⟨(lets size).length, rfl, Nat.zero_le _, s3, by rw [List.take_zero, List.append_nil]; exact hD⟩, ?_⟩
        rintro j k H5 ⟨rfl, hj, s5, hD5⟩
        have csz : (mk (lets size)).cps.size = (lets size).length := mk_len _
        by_cases hlj : j < (lets size).length
        · refine .inr ⟨by show j < (mk (lets size)).cps.size; omega, fun H6 => Same H2 H6 ∧ H6 D = some (.lst ((((allW size t).take i).flatMap (ext size) ++ (ext size r).take (j + 1)).map vS)), fun H6 ⟨z1, z2⟩ => ⟨(lets size).length - (j + 1), by omega, rfl, hlj, z1, z2⟩, fun x H6 hy => ?_⟩
          obtain ⟨rfl, c, hc, rfl⟩ := hy
          have hc' : (lets size)[j]? = some c := by
            have e : (mk (lets size)).cps.toList[j]? = some c := by rw [Array.getElem?_toList]; exact hc
            rwa [mk_cps] at e
          refine ⟨rfl, ?_⟩
          refine ⟨vS r, rfl, .str ⟨#[c]⟩, rfl, mk r, ⟨#[c]⟩, rfl, rfl, ?_, ?_⟩
          · have := (allW_mem.mp rm).1
            have e1 : (⟨#[c]⟩ : Str).length = 1 := rfl
            rw [mk_len, e1, sizeLine_eq]
            omega
          · rw [mk_add]
            refine ⟨_, hD5, ?_, fun b o e => ?_, ?_⟩
            · rw [List.length_map]
              have e1 : (((allW size t).take i).flatMap (ext size) ++ (ext size r).take j).length ≤ (allW size (t + 1)).length := by
                rw [allW_succ]
                have e2 : ((allW size t).take (i + 1)).flatMap (ext size) = ((allW size t).take i).flatMap (ext size) ++ ext size r := flat_take hr0
                have e3 : (allW size t).flatMap (ext size) = ((allW size t).take (i + 1)).flatMap (ext size) ++ ((allW size t).drop (i + 1)).flatMap (ext size) := by
                  rw [← List.flatMap_append, List.take_append_drop]
                rw [e3, e2, List.length_append, List.length_append, List.length_append, List.length_take]
                omega
              exact small1000 (by omega)
            · have nb : b ≠ D := ne_of_none e nD
              rw [upd_ne nb]
              exact s5 b o e
            · rw [upd_same, ext_take hc', ← List.append_assoc]
              rw [List.map_append (l₂ := [r ++ [c]])]
              rfl
        · have ej : j = (lets size).length := by omega
          refine .inl ⟨by show (mk (lets size)).cps.size ≤ j; omega, s5, ?_⟩
          rw [flat_take hr0]
          have e1 : (ext size r).take j = ext size r := List.take_of_length_le (by unfold ext; rw [List.length_map]; omega)
          rw [e1] at hD5
          exact hD5
      · have ei : i = (allW size t).length := by omega
        refine .inl ⟨⟨_, hA, by rw [List.length_map]; omega⟩, ?_⟩
        rw [ei, List.take_length] at hD
        -- if len(rows) > MOST_WORDS
        refine ⟨.ref D, rfl, .ref D, _, rfl, .inl ⟨_, SqL.of hD, rfl⟩, _, 5000, rfl, rfl, false, ?_, iteF ?_⟩
        · show V.bl (decide ((5000 : Int) < _)) = V.bl false
          rw [List.length_map, decide_eq_false]
          rw [← allW_succ]
          omega
        · exact ⟨D, _, rfl, sm.trans s3, hD⟩
    · rintro σ H2 ⟨a, y4, rfl, sm, ha⟩
      have en : (n : Int).toNat = n := by omega
      rw [en] at ha
      -- found = {}
      intro df H3 ndf NF oth
      have s3 : Same H2 H3 := fun b o e => by rw [oth b (ne_of_none e ndf)]; exact e
      have few : (allW size n).length ≤ 243 := hb.few n (Nat.le_refl _)
      -- for row in rows
      refine ⟨.ref a, rfl, a, rfl, ⟨_, SqL.of (s3 _ _ ha)⟩, for_list (K := K) (a := a) (xs := (allW size n).map vS) (fun i σ H4 => ∃ y5, σ = [some (.int size), some (.int n), some (.int d), some (.ref a), y4, y5, some (.ref df), none] ∧ Same H2 H4 ∧ ND P w H4 df (kvF (firsts (fun w => tab w d) ((allW size n).take i))))
        ⟨none, rfl, s3, NF⟩ (fun i σ H4 _ ⟨_, _, s4, _⟩ => SqL.of (s4 _ _ ha)) ?_ ?_⟩
      · rintro i x σ H4 hx ⟨y5, rfl, s4, N4⟩
        obtain ⟨r, hr0, rfl⟩ := get_vS hx
        have rm : r ∈ allW size n := List.mem_of_getElem? hr0
        have rl := (allW_mem.mp rm).1
        refine ⟨.ref df, rfl, df, rfl, ⟨_, N4⟩, vS r, rfl, .int d, rfl, r, d, rfl, by omega, hd, fun H5 p s5 tp => ?_⟩
        have s25 : Same H2 H5 := s4.trans s5
        have lenF : (firsts (fun w => tab w d) ((allW size n).take i)).length ≤ 243 := by
          have := (fst_all (fun w => tab w d) ((allW size n).take i)).len
          rw [List.length_take] at this
          omega
        refine ⟨vS r, rfl, _, p, tab r d, rfl, tp, N4.same s5, by rw [kvF_len]; exact small1000 (by omega), fun v hv => ?_, fun hv H6 N6 o6 => ?_⟩
        · refine ⟨_, rfl, s25, ?_⟩
          rw [firsts_take hr0, kvF_stay (f := fun w => tab w d) hv]
          exact N4.same s5
        · refine ⟨_, rfl, fun b o e => ?_, ?_⟩
          · have nb : b ≠ df := ne_of_none e ndf
            rw [o6 b nb]
            exact s25 b o e
          · rw [firsts_take hr0, kvF_step (f := fun w => tab w d) hv]
            exact N6
      · rintro σ H4 ⟨y5, rfl, s4, N4⟩
        rw [List.length_map, List.take_length] at N4
        -- return sorted(found.values())
        refine ⟨.ref df, rfl, df, _, (firsts (fun w => tab w d) (allW size n)).map (·.2), rfl, N4, ?_, fun p np => ?_⟩
        · unfold kvF
          rw [List.map_map, List.map_map]
          rfl
        · exact q _ p ((sm.trans s4).trans (same_upd np)) upd_same
end
end Av

/-! The walks of the law's helpers: _law_taken, _law_all, _law_word, _law_alike. -/
namespace Av
open PySem PySem.Spec PyProof.Rows L2

abbrev sTaken : Stmt := topS 24
abbrev sAlikeL : Stmt := topS 25
abbrev sWord : Stmt := topS 26
abbrev sAll : Stmt := topS 27
/-! ### the row of draws -/
def RowAt (H : Hp) (r a : Addr) : Prop := ∃ i z e : Int, H r = some (.lst [.ref a, .int i, .int z, .int e]) ∧ 0 ≤ i ∧ 0 ≤ z ∧ z < 2147483647
theorem seq_off {K : PySem.W.Frag} {H H' : Hp} {a r : Addr} {ns : List Int} {x : Addr} {rest : List V} (h : SqL K H a (ns.map V.int)) (hr : H r = some (.lst (.ref x :: rest))) (o : ∀ b, b ≠ r → H' b = H b) : SqL K H' a (ns.map V.int) := by
  rcases h with (h | ⟨ob, h⟩) | h
  · have ne : a ≠ r := by
      rintro rfl
      rw [hr] at h
      cases ns with
      | nil =>
        have h' := Option.some.inj h
        injection h' with h'
        cases h'
      | cons n ns =>
        have h' := Option.some.inj h
        injection h' with h'
        injection h' with h1 h2
        cases h1
    exact .inl (.inl (by rw [o a ne]; exact h))
  · have ne : a ≠ r := by
      rintro rfl
      rw [hr] at h
      cases Option.some.inj h
    exact .inl (.inr ⟨ob, by rw [o a ne]; exact h⟩)
  · exact .inr h
def spTaken (K : PySem.W.Frag) : Sp := fun vs H Q _ => ∃ (r a : Addr) (ns : List Int) (m : Int), vs = [.ref r, .int m] ∧ RowAt H r a ∧ SqL K H a (ns.map V.int) ∧ ns.length ≤ 63 ∧ 0 < m ∧ m < 1000 ∧
  ∀ (v : Int) H', 0 ≤ v → v < m → RowAt H' r a → (∀ b, b ≠ r → H' b = H b) → Q (.int v) H'
section
variable {P : Program} {w : World} {K : PySem.W.Frag} {mg : Str → Option Value} {base : Heap}
theorem scTaken : FnScope ["_law_row", "_law_many", "_law_found", "_law_cell"] ["_law_row", "_law_many"] (defScope sTaken) := ⟨rfl, rfl, rfl, by decide +kernel, rfl, by decide +kernel, by decide +kernel⟩
theorem ok_taken {f : Addr} {fd : FuncData} (F : Fun K "_law_taken" "_law_taken" sTaken f fd) (T : Txt mg) : FnOk P w K mg base CX0 1 f fd ["_law_row", "_law_many"] (spTaken K) := by
  refine F.ok scTaken (fun vs H Q E h => ?_) (fun cdv A outer s H vs Q E hr h => ?_)
  · obtain ⟨r, a, ns, m, rfl, _⟩ := h
    rfl
  · obtain ⟨r, a, ns, m, rfl, ⟨i, z, e, hR, hi, hz0, hz1⟩, hS, h63, m0, m1, q⟩ := h
    refine ⟨_, pss_cons (ps_if (pt_cmpR op_gt (pe_ix ix_list (pv 0) pe_int (fun _ _ => rfl)) pe_int (nomark _))
        (pss_cons (ps_set (i := 2) scTaken.nd rfl (.inl rfl) (pe_op op_mod (pe_callTy call_int1 (by rfl) T.int (by decide +kernel) (pa_cons (pe_ix ix_list (pv 0) pe_int (fun _ _ => rfl)) pa_nil)) (pv 1)))
        (pss_cons (ps_asg (pe_op op_fdiv (pe_ix ix_list (pv 0) pe_int (fun _ _ => rfl)) (pv 1)) (pg_sub (pv 0) pe_int set_list))
        (pss_one (ps_ret (pv 2))))) pss_nil)
      (pss_cons (ps_asg (pe_op op_add (pe_ix ix_list (pv 0) pe_int (fun _ _ => rfl)) pe_int) (pg_sub (pv 0) pe_int set_list))
      (pss_cons (ps_if (pt_cmpR op_gt (pe_ix ix_list (pv 0) pe_int (fun _ _ => rfl)) (pe_callB call_len (by rfl) T.len PySem.boot_len (pa_cons (pe_ix ix_list (pv 0) pe_int (fun _ _ => rfl)) pa_nil)) (nomark _))
        (pss_cons (ps_asg (pe_op op_mod (pe_callTy call_int1 (by rfl) T.int (by decide +kernel) (pa_cons (pe_op op_add (pe_op op_mul (pe_ix ix_list (pv 0) pe_int (fun _ _ => rfl)) pe_int) pe_int) pa_nil)) pe_int) (pg_sub (pv 0) pe_int set_list))
        (pss_one (ps_ret (pe_op op_mod (pe_callTy call_int1 (by rfl) T.int (by decide +kernel) (pa_cons (pe_op op_fdiv (pe_ix ix_list (pv 0) pe_int (fun _ _ => rfl)) pe_int) pa_nil)) (pv 1))))) pss_nil)
      (pss_cons (ps_set (i := 3) scTaken.nd rfl (.inl rfl) (pe_ix ix_list (pe_ix ix_list (pv 0) pe_int (fun _ _ => rfl)) (pe_op op_sub (pe_ix ix_list (pv 0) pe_int (fun _ _ => rfl)) pe_int) (fun _ _ => rfl)))
      (pss_cons (ps_asg (pe_op op_mod (pe_callTy call_int1 (by rfl) T.int (by decide +kernel) (pa_cons (pe_op op_add (pe_op op_add (pe_op op_mul (pe_ix ix_list (pv 0) pe_int (fun _ _ => rfl)) pe_int) (pv 3)) pe_int) pa_nil)) pe_int) (pg_sub (pv 0) pe_int set_list))
      (pss_cons (ps_if (pt_cmpR op_ge (pv 3) (pe_op op_pow pe_int pe_int) (nomark _))
        (pss_one (ps_asg (pe_op op_fdiv (pv 3) (pv 1)) (pg_sub (pv 0) pe_int set_list))) pss_nil)
      (pss_one (ps_ret (pe_op op_mod (pe_callTy call_int1 (by rfl) T.int (by decide +kernel) (pa_cons (pv 3) pa_nil)) (pv 1))))))))), ?_⟩
    have off : ∀ {H1 : Hp} {o : HO}, (∀ b, b ≠ r → H1 b = H b) → (∀ b, b ≠ r → (upd H1 r o) b = H b) := fun h b hb => by rw [upd_ne hb]; exact h b hb
    have modB : ∀ x : Int, 0 ≤ x % m ∧ x % m < m := fun x => ⟨Int.emod_nonneg _ (by omega), Int.emod_lt_of_pos _ m0⟩
    have modC : ∀ x : Int, 0 ≤ x % 2147483647 ∧ x % 2147483647 < 2147483647 := fun x => ⟨Int.emod_nonneg _ (by omega), Int.emod_lt_of_pos _ (by omega)⟩
    -- if _law_row[3] > 0
    refine ⟨.ref r, rfl, r, _, 3, .int e, rfl, rfl, SqL.of hR, atI_nat (j := 3) rfl, e, 0, rfl, rfl, decide (0 < e), rfl, ite2 (fun _ => ?_) (fun _ => ?_)⟩
    · -- the rest of a cell
      refine ⟨.ref r, rfl, r, _, 3, .int e, rfl, rfl, SqL.of hR, atI_nat (j := 3) rfl, .inl ⟨e, rfl, .int m, rfl, e, m, rfl, rfl, m0, ?_⟩⟩
      refine ⟨.ref r, rfl, r, _, 3, .int e, rfl, rfl, SqL.of hR, atI_nat (j := 3) rfl, .int m, rfl, e, m, rfl, rfl, ⟨m0, by omega⟩, ?_⟩
      refine ⟨.ref r, rfl, r, _, 3, 3, rfl, rfl, hR, rfl, .int (e % m), rfl, ?_⟩
      exact q _ _ (modB e).1 (modB e).2 ⟨i, z, e / m, upd_same, hi, hz0, hz1⟩ (off (fun _ _ => rfl))
    · -- _law_row[1] = _law_row[1] + 1
      refine ⟨.ref r, rfl, r, _, 1, .int i, rfl, rfl, SqL.of hR, atI_nat (j := 1) rfl, i, 1, rfl, rfl, ?_⟩
      refine ⟨.ref r, rfl, r, _, 1, 1, rfl, rfl, hR, rfl, ?_⟩
      have hR1 : (upd H r (.lst [.ref a, .int (i + 1), .int z, .int e])) r = some (.lst [.ref a, .int (i + 1), .int z, .int e]) := upd_same
      have o1 : ∀ b, b ≠ r → (upd H r (.lst [.ref a, .int (i + 1), .int z, .int e])) b = H b := off (fun _ _ => rfl)
      have hS1 : SqL K (upd H r (.lst [.ref a, .int (i + 1), .int z, .int e])) a (ns.map V.int) := seq_off hS hR o1
      generalize hH1 : upd H r (.lst [.ref a, .int (i + 1), .int z, .int e]) = H1 at hR1 o1 hS1
      -- if _law_row[1] > len(_law_row[0])
      refine ⟨.ref r, rfl, r, _, 1, .int (i + 1), rfl, rfl, SqL.of (by show _ = _; exact hH1 ▸ hR1), atI_nat (j := 1) rfl, ?_⟩
      show _
      rw [show upd H r (.lst (List.set [V.ref a, .int i, .int z, .int e] 1 (.int (i + 1)))) = H1 from hH1]
      refine ⟨.ref r, rfl, r, _, 0, .ref a, rfl, rfl, SqL.of hR1, atI_nat (j := 0) rfl, .ref a, _, rfl, .inl ⟨_, hS1, rfl⟩, i + 1, _, rfl, rfl, decide (((ns.map V.int).length : Int) < i + 1), rfl, ite2 (fun _ => ?_) (fun hle => ?_)⟩
      · -- behind the script
        refine ⟨.ref r, rfl, r, _, 2, .int z, rfl, rfl, SqL.of hR1, atI_nat (j := 2) rfl, z, 48271, rfl, rfl, .inr ⟨by decide, by decide⟩, _, 11, rfl, rfl, .inl ⟨_, rfl, _, 2147483647, rfl, rfl, (by show (0 : Int) < 2147483647; decide), ?_⟩⟩
        refine ⟨.ref r, rfl, r, _, 2, 2, rfl, rfl, hR1, rfl, ?_⟩
        refine ⟨.ref r, rfl, r, _, 2, _, rfl, rfl, SqL.of upd_same, atI_nat (j := 2) rfl, _, 7, rfl, rfl, ⟨by decide, by decide⟩, .inl ⟨_, rfl, .int m, rfl, _, m, rfl, rfl, m0, ?_⟩⟩
        exact q _ _ (modB _).1 (modB _).2 ⟨i + 1, _, e, upd_same, by omega, (modC _).1, (modC _).2⟩ (fun b hb => by rw [upd_ne hb]; exact o1 b hb)
      · rw [decide_eq_true_iff, List.length_map] at hle
        have hlt : i.toNat < ns.length := by omega
        have hat : (ns.map V.int)[i.toNat]? = some (.int ns[i.toNat]) := by
          rw [List.getElem?_map, List.getElem?_eq_getElem hlt]
          rfl
        generalize ns[i.toNat] = c at hat
        -- _law_cell = _law_row[0][_law_row[1] - 1]
        refine ⟨.ref r, rfl, r, _, 0, .ref a, rfl, rfl, SqL.of hR1, atI_nat (j := 0) rfl, .ref r, rfl, r, _, 1, .int (i + 1), rfl, rfl, SqL.of hR1, atI_nat (j := 1) rfl, i + 1, 1, rfl, rfl, a, _, i + 1 - 1, .int c, rfl, rfl, hS1, at_of (j := i.toNat) (by omega) hat, ?_⟩
        -- _law_row[2] = ..
        refine ⟨.ref r, rfl, r, _, 2, .int z, rfl, rfl, SqL.of hR1, atI_nat (j := 2) rfl, z, 48271, rfl, rfl, .inr ⟨by decide, by decide⟩, .int c, rfl, _, c, rfl, rfl, _, 11, rfl, rfl, .inl ⟨_, rfl, _, 2147483647, rfl, rfl, (by show (0 : Int) < 2147483647; decide), ?_⟩⟩
        refine ⟨.ref r, rfl, r, _, 2, 2, rfl, rfl, hR1, rfl, ?_⟩
        -- if _law_cell >= 10 ** 18
        refine ⟨.int c, rfl, 10, 18, rfl, rfl, ⟨by decide, by decide, by decide⟩, c, _, rfl, rfl, _, rfl, ite2 (fun _ => ?_) (fun _ => ?_)⟩
        · refine ⟨.int c, rfl, .int m, rfl, c, m, rfl, rfl, ⟨m0, by omega⟩, .ref r, rfl, r, _, 3, 3, rfl, rfl, upd_same, rfl, ?_⟩
          refine ⟨.int c, rfl, .inl ⟨c, rfl, .int m, rfl, c, m, rfl, rfl, m0, ?_⟩⟩
          exact q _ _ (modB _).1 (modB _).2 ⟨i + 1, _, _, upd_same, by omega, (modC _).1, (modC _).2⟩ (fun b hb => by rw [upd_ne hb, upd_ne hb]; exact o1 b hb)
        · refine ⟨.int c, rfl, .inl ⟨c, rfl, .int m, rfl, c, m, rfl, rfl, m0, ?_⟩⟩
          exact q _ _ (modB _).1 (modB _).2 ⟨i + 1, _, _, upd_same, by omega, (modC _).1, (modC _).2⟩ (fun b hb => by rw [upd_ne hb]; exact o1 b hb)
end
end Av

/-! The walks of the law's helpers: _law_all, _law_word, _law_alike. -/
namespace Av
open PySem PySem.Spec PyProof.Rows L2

theorem cut6 {size : Nat} (h : 1 ≤ size ∧ size ≤ 3) : cutS (Str.ofString "abcdef") none (some (size : Int)) = mk (lets size) := by
  have : size = 1 ∨ size = 2 ∨ size = 3 := by omega
  rcases this with rfl | rfl | rfl <;> decide +kernel
theorem af_len : (Str.ofString "abcdef").length ≤ sizeLine := by
  rw [sizeLine_eq]
  decide +kernel
def spAll : Sp := fun vs H Q _ => ∃ size n : Nat, vs = [.int size, .int n] ∧ Bnd size n ∧ ∀ H' p, Same H H' → H' p = some (.lst ((allW size n).map vS)) → Q (.ref p) H'
theorem few_flat {size t i : Nat} {ws : List (List Nat)} {m : Nat} (few : (allW size (t + 1)).length ≤ m) : (((allW size t).take i).flatMap (ext size)).length ≤ m := by
  have e3 : (allW size t).flatMap (ext size) = ((allW size t).take i).flatMap (ext size) ++ ((allW size t).drop i).flatMap (ext size) := by
    rw [← List.flatMap_append, List.take_append_drop]
  have e4 := congrArg List.length e3
  rw [List.length_append, ← allW_succ] at e4
  omega
section
variable {P : Program} {w : World} {K : PySem.W.Frag} {mg : Str → Option Value} {base : Heap}
theorem scAll : FnScope ["_law_size", "_law_length", "_law_found", "_law_turn", "_law_longer", "_law_word_here", "_law_sign"] ["_law_size", "_law_length"] (defScope sAll) := ⟨rfl, rfl, rfl, by decide +kernel, rfl, by decide +kernel, by decide +kernel⟩
theorem ok_all {f : Addr} {fd : FuncData} (F : Fun K "_law_all" "_law_all" sAll f fd) (T : Txt mg) : FnOk P w K mg base CX0 1 f fd ["_law_size", "_law_length"] spAll := by
  refine F.ok scAll (fun vs H Q E h => ?_) (fun cdv A outer s H vs Q E hr h => ?_)
  · obtain ⟨size, n, rfl, _⟩ := h
    rfl
  · obtain ⟨size, n, rfl, hb, q⟩ := h
    have hsz := hb.size
    have hn := hb.len
    refine ⟨_, pss_cons (ps_set (i := 2) scAll.nd rfl (.inl rfl) (pe_lst (pa_cons pe_str pa_nil)))
      (pss_cons (ps_for PassesOwn.never rfl (pi_range1 (by rfl) T.range (pa_cons (pv 1) pa_nil)) (pg_name (i := 3) scAll.nd rfl (.inl rfl))
        (pss_cons (ps_set (i := 4) scAll.nd rfl (.inl rfl) (pe_lst pa_nil))
        (pss_cons (ps_for PassesOwn.never rfl (pi_list (pv 2)) (pg_name (i := 5) scAll.nd rfl (.inr rfl))
          (pss_one (ps_set (i := 4) scAll.nd rfl (.inl rfl) (pe_op op_cat (pv 4)
            (pe_lc (own := [("_law_sign", 6)]) (g := gName 6) (tt := tYes) (by rfl) scAll.nd (pi_str (pe_slice sl_str pe_str po_none (po_some (pv 0))))
              (blkOk_by (own := [("_law_sign", 6)]) (N := ["_law_size", "_law_length", "_law_found", "_law_turn", "_law_longer", "_law_word_here", "_law_sign"]) (sc := defScope sAll) (by decide +kernel))
              (fun _ _ _ _ _ => pg_name (i := 6) scAll.nd rfl (Or.inl rfl)) (fun _ _ _ _ _ => pts_nil)
              (fun _ _ _ _ _ => pe_op op_add_str (pv 5) (pv 6)))))))
        (pss_one (ps_set (i := 2) scAll.nd rfl (.inl rfl) (pv 4))))))
      (pss_one (ps_ret (pv 2)))), ?_⟩
    refine ⟨by show 1 ≤ sizeLine; decide, fun a0 na0 => ?_⟩
    refine ⟨.int n, rfl, n, rfl, by omega, by omega, ?_⟩
    refine for_range (lo := 0) (n := (n : Int).toNat) (fun t σ H2 => ∃ (a : Addr) (y3 y4 y5 : Option V), σ = [some (.int size), some (.int n), some (.ref a), y3, y4, y5, none] ∧ Same H H2 ∧ H2 a = some (.lst ((allW size t).map vS)))
      ⟨a0, none, none, none, rfl, same_upd na0, ?_⟩ ?_ ?_
    · rw [upd_same, str_nil]
      rfl
    · rintro t σ H2 ht ⟨a, y3, y4, y5, rfl, sm, ha⟩
      have htn : t < n := by omega
      have few : (allW size (t + 1)).length ≤ 243 := hb.few (t + 1) (by omega)
      -- _law_longer = []
      refine ⟨Nat.zero_le _, fun b0 nb0 => ?_⟩
      have s2 : Same H2 (upd H2 b0 (.lst [])) := same_upd nb0
      -- for _law_word_here in _law_found
      refine ⟨.ref a, rfl, a, rfl, ⟨_, SqL.of (s2 _ _ ha)⟩, for_list (K := K) (a := a) (xs := (allW size t).map vS) (fun i σ H3 => ∃ (b : Addr) (y5 : Option V), σ = [some (.int size), some (.int n), some (.ref a), some (.int (0 + t)), some (.ref b), y5, none] ∧ Same H2 H3 ∧ H3 b = some (.lst ((((allW size t).take i).flatMap (ext size)).map vS)))
        ⟨b0, y5, rfl, s2, upd_same⟩ (fun i σ H3 _ ⟨_, _, _, s3, _⟩ => SqL.of (s3 _ _ ha)) ?_ ?_⟩
      · rintro i x σ H3 hx ⟨b, y5, rfl, s3, hb3⟩
        obtain ⟨r, hr0, rfl⟩ := get_vS hx
        have rm : r ∈ allW size t := List.mem_of_getElem? hr0
        have rl := (allW_mem.mp rm).1
        -- _law_longer + [..]
        refine ⟨.ref b, rfl, ?_⟩
        refine ⟨_, rfl, ?_⟩
        refine ⟨size, rfl, _, rfl, af_len, _, rfl, ?_⟩
        rw [cut6 hsz]
        intro D nD
        refine lc_its (x := mk (lets size)) (fun j H4 => Same H3 H4 ∧ H4 D = some (.lst (((ext size r).take j).map vS))) ⟨same_upd nD, by rw [upd_same, List.take_zero]; rfl⟩ ?_ ?_
        · rintro j c H4 hc ⟨s4, hD⟩
          have hc' : (lets size)[j]? = some c := by
            have e : (mk (lets size)).cps.toList[j]? = some c := by rw [Array.getElem?_toList]; exact hc
            rwa [mk_cps] at e
          refine ⟨rfl, ?_⟩
          refine ⟨vS r, rfl, .str ⟨#[c]⟩, rfl, mk r, ⟨#[c]⟩, rfl, rfl, ?_, ?_⟩
          · have e1 : (⟨#[c]⟩ : Str).length = 1 := rfl
            rw [mk_len, e1, sizeLine_eq]
            omega
          · rw [mk_add]
            refine ⟨_, hD, ?_, fun b o e => ?_, ?_⟩
            · rw [List.length_map, List.length_take]
              have : (ext size r).length = size := by unfold ext; rw [List.length_map, lets_len hsz.2]
              exact small1000 (by omega)
            · have nb : b ≠ D := ne_of_none e nD
              rw [upd_ne nb]
              exact s4 b o e
            · rw [upd_same, ext_take hc', List.map_append]
              rfl
        · rintro H4 ⟨s4, hD⟩
          have csz : (mk (lets size)).cps.size = (lets size).length := mk_len _
          rw [csz] at hD
          have e1 : (ext size r).take (lets size).length = ext size r := List.take_of_length_le (by unfold ext; rw [List.length_map]; omega)
          rw [e1] at hD
          have f1 := few_flat (i := i + 1) (ws := []) few
          rw [flat_take hr0, List.length_append] at f1
          refine ⟨b, D, _, _, rfl, rfl, s4 _ _ hb3, hD, ?_, fun p np => ?_⟩
          · rw [List.length_map, List.length_map, sizeLine_eq]
            omega
          · refine ⟨p, _, rfl, (s3.trans s4).trans (same_upd np), ?_⟩
            rw [upd_same, flat_take hr0, List.map_append]
      · rintro σ H3 ⟨b, y5, rfl, s3, hb3⟩
        rw [List.length_map, List.take_length] at hb3
        -- _law_found = _law_longer
        refine ⟨.ref b, rfl, b, _, _, _, rfl, sm.trans s3, hb3⟩
    · rintro σ H2 ⟨a, y3, y4, y5, rfl, sm, ha⟩
      have en : (n : Int).toNat = n := by omega
      rw [en] at ha
      exact ⟨.ref a, rfl, q H2 a sm ha⟩
end

/-! ### a word that is drawn -/
theorem join_one (cs : List Nat) : Txt.join (mk []) (cs.map fun c => (⟨#[c]⟩ : Str)) = mk cs := by
  show Builtin.Str.glued (mk []) _ = _
  rw [PySem.StrLaws.glued_eq_join]
  induction cs with
  | nil => rfl
  | cons c cs ih =>
    cases cs with
    | nil => rfl
    | cons d cs =>
      show (⟨#[c]⟩ : Str) ++ mk [] ++ Str.join (mk []) ((d :: cs).map fun c => (⟨#[c]⟩ : Str)) = mk (c :: d :: cs)
      rw [ih]
      show Str.append (Str.append (⟨#[c]⟩ : Str) (mk [])) (mk (d :: cs)) = mk (c :: d :: cs)
      unfold mk
      simp [Str.append]
theorem one_of_lets {size : Nat} (h : 1 ≤ size ∧ size ≤ 3) {v : Int} (h0 : 0 ≤ v) (h1 : v < size) : ∃ c, atI (Str.ofString "abcdef").cps.toList v = some c ∧ c ∈ lets size := by
  have e : (Str.ofString "abcdef").cps.toList = [97, 98, 99, 100, 101, 102] := by decide +kernel
  rw [e]
  have hv : v = 0 ∨ v = 1 ∨ v = 2 := by omega
  have hs : size = 1 ∨ size = 2 ∨ size = 3 := by omega
  rcases hv with rfl | rfl | rfl
  · exact ⟨97, by decide, by rcases hs with rfl | rfl | rfl <;> decide⟩
  · exact ⟨98, by decide, by rcases hs with rfl | rfl | rfl <;> first | decide | (exfalso; omega)⟩
  · exact ⟨99, by decide, by rcases hs with rfl | rfl | rfl <;> first | decide | (exfalso; omega)⟩
def spWord (K : PySem.W.Frag) : Sp := fun vs H Q _ => ∃ (r a : Addr) (ns : List Int) (size n : Nat), vs = [.ref r, .int size, .int n, .int n] ∧ RowAt H r a ∧ SqL K H a (ns.map V.int) ∧ ns.length ≤ 63 ∧ Bnd size n ∧
  ∀ (cs : List Nat) H', cs ∈ allW size n → RowAt H' r a → (∀ b o, b ≠ r → H b = some o → H' b = some o) → Q (vS cs) H'
section
variable {P : Program} {w : World} {K : PySem.W.Frag} {mg : Str → Option Value} {base : Heap}
theorem seq_keep {K : PySem.W.Frag} {H H' : Hp} {a r : Addr} {ns : List Int} {x : Addr} {rest : List V} (h : SqL K H a (ns.map V.int)) (hr : H r = some (.lst (.ref x :: rest))) (o : ∀ b ob, b ≠ r → H b = some ob → H' b = some ob) : SqL K H' a (ns.map V.int) := by
  have h2 : SqL K (fun b => if b = r then H r else H' b) a (ns.map V.int) := by
    refine Same.seq (H := H) (fun b ob e => ?_) h
    show (if b = r then H r else H' b) = some ob
    by_cases hb : b = r
    · rw [if_pos hb, ← hb]
      exact e
    · rw [if_neg hb]
      exact o b ob hb e
  refine seq_off (r := r) (x := x) (rest := rest) h2 ?_ fun b hb => ?_
  · show (if r = r then H r else H' r) = _
    rw [if_pos rfl]
    exact hr
  · show H' b = (if b = r then H r else H' b)
    rw [if_neg hb]
theorem RowAt.some {H : Hp} {r a : Addr} (h : RowAt H r a) : ∃ x rest, H r = some (.lst (.ref x :: rest)) := by
  obtain ⟨i, z, e, h, _⟩ := h
  exact ⟨_, _, h⟩
theorem scWord : FnScope ["_law_row", "_law_size", "_law_least", "_law_most", "_law_at"] ["_law_row", "_law_size", "_law_least", "_law_most"] (defScope sWord) := ⟨rfl, rfl, rfl, by decide +kernel, rfl, by decide +kernel, by decide +kernel⟩
theorem ok_word {f fT : Addr} {fd fdT : FuncData} (F : Fun K "_law_word" "_law_word" sWord f fd) (T : Txt mg)
    (GT : FnOk P w K mg base CX0 1 fT fdT ["_law_row", "_law_many"] (spTaken K)) (gT : mg "_law_taken" = some (.ref fT)) (kT : PySem.W.keepIn K (.ref fT) = true) (bT : Binds K fdT ["_law_row", "_law_many"] []) :
    FnOk P w K mg base CX0 2 f fd ["_law_row", "_law_size", "_law_least", "_law_most"] (spWord K) := by
  refine F.ok scWord (fun vs H Q E h => ?_) (fun cdv A outer s H vs Q E hr h => ?_)
  · obtain ⟨r, a, ns, size, n, rfl, _⟩ := h
    rfl
  · obtain ⟨r, a, ns, size, n, rfl, hR, hS, h63, hb, q⟩ := h
    have hsz := hb.size
    have hn := hb.len
    refine ⟨_, pss_one (ps_ret (pe_join pe_str
      (pe_lc (own := [("_law_at", 4)]) (g := gName 4) (tt := tYes) (by rfl) scWord.nd
        (pi_range1 (by rfl) T.range (pa_cons (pe_op op_add (pv 2) (pe_call GT hr (by rfl) gT kT bT .nil pass0 (pa_cons (pv 0) (pa_cons (pe_op op_add (pe_op op_sub (pv 3) (pv 2)) pe_int) pa_nil)))) pa_nil))
        (blkOk_by (own := [("_law_at", 4)]) (N := ["_law_row", "_law_size", "_law_least", "_law_most", "_law_at"]) (sc := defScope sWord) (by decide +kernel))
        (fun _ _ _ _ _ => pg_name (i := 4) scWord.nd rfl (Or.inl rfl)) (fun _ _ _ _ _ => pts_nil)
        (fun _ _ _ _ _ => pe_ix ix_str pe_str (pe_call GT hr (by rfl) gT kT bT .nil pass0 (pa_cons (pv 0) (pa_cons (pv 1) pa_nil))) (fun _ _ => rfl))))), ?_⟩
    refine ⟨⟨_, rfl⟩, .int n, rfl, .ref r, rfl, .int n, rfl, .int n, rfl, n, n, rfl, rfl, _, 1, rfl, rfl, r, a, ns, (n : Int) - n + 1, rfl, hR, hS, h63, by omega, by omega, fun v H1 v0 v1 R1 o1 => ?_⟩
    have v2 : v = 0 := by omega
    subst v2
    have hS1 : SqL K H1 a (ns.map V.int) := by
      obtain ⟨x, rest, e⟩ := hR.some
      exact seq_off hS e o1
    refine ⟨n, 0, rfl, rfl, (n : Int) + 0, rfl, by omega, by omega, fun D nD => ?_⟩
    obtain ⟨xr, restr, er⟩ := R1.some
    have rD : r ≠ D := ne_of_none er nD
    obtain ⟨x0, rest0, e0⟩ := hR.some
    refine lc_range (lo := 0) (n := ((n : Int) + 0).toNat) (fun i H2 => ∃ cs : List Nat, cs.length = i ∧ (∀ c ∈ cs, c ∈ lets size) ∧ H2 D = some (.lst (cs.map fun c => V.str ⟨#[c]⟩)) ∧ RowAt H2 r a ∧ (∀ b o, b ≠ r → H b = some o → H2 b = some o))
      ⟨[], rfl, (fun c h => nomatch h), upd_same, ?_, fun b o hb0 e => ?_⟩ ?_ ?_
    · obtain ⟨i, z, e, h1, h2⟩ := R1
      exact ⟨i, z, e, by rw [upd_ne rD]; exact h1, h2⟩
    · have e1 : H1 b = some o := by rw [o1 b hb0]; exact e
      exact same_upd nD b o e1
    · rintro i H2 hi ⟨cs, hl, hcs, hD, R2, o2⟩
      refine ⟨rfl, ?_⟩
      refine ⟨.ref r, rfl, .int size, rfl, r, a, ns, size, rfl, R2, seq_keep hS e0 o2, h63, by omega, by omega, fun v H3 v0 v1 R3 o3 => ?_⟩
      obtain ⟨c, hc, hm⟩ := one_of_lets hsz v0 v1
      have hD3 : H3 D = some (.lst (cs.map fun c => V.str ⟨#[c]⟩)) := by rw [o3 D (Ne.symm rD)]; exact hD
      refine ⟨_, v, c, rfl, rfl, af_len, hc, _, hD3, by rw [List.length_map]; exact small1000 (by omega), cs ++ [c], by rw [List.length_append, hl]; rfl, fun d hd => ?_, ?_, ?_, fun b o hb0 e => ?_⟩
      · rcases List.mem_append.mp hd with hd | hd
        · exact hcs d hd
        · rw [List.mem_singleton.mp hd]
          exact hm
      · rw [upd_same, List.map_append]
        rfl
      · obtain ⟨i, z, e, h1, h2⟩ := R3
        exact ⟨i, z, e, by rw [upd_ne rD]; exact h1, h2⟩
      · have ne : b ≠ D := by
          rintro rfl
          have e1 : H1 b = some o := by rw [o1 b hb0]; exact e
          rw [nD] at e1
          cases e1
        rw [upd_ne ne, o3 b hb0]
        exact o2 b o hb0 e
    · rintro H2 ⟨cs, hl, hcs, hD, R2, o2⟩
      have hl2 : cs.length = n := by omega
      refine ⟨_, D, cs.map fun c => (⟨#[c]⟩ : Str), rfl, rfl, .inl (SqL.of (by rw [List.map_map]; exact hD)), ?_, ?_⟩
      · have e1 : (cs.map fun c => (⟨#[c]⟩ : Str)).map (·.length) = cs.map fun _ => 1 := by
          rw [List.map_map]
          rfl
        rw [e1, str_nil, mk_len]
        have e2 : (cs.map fun _ => 1).sum = cs.length := by
          clear e1 hl hcs hD o2 hl2
          induction cs with
          | nil => rfl
          | cons c cs ih => rw [List.map_cons, List.sum_cons, ih, List.length_cons]; omega
        rw [e2]
        show cs.length + _ * 0 ≤ _
        omega
      · rw [str_nil, join_one]
        exact q cs H2 (allW_mem.mpr ⟨hl2, hcs⟩) R2 o2
end
end Av

/-! The walk of _law_alike: on two equal texts, on two lists of the same texts. -/
namespace Av
open PySem PySem.Spec PyProof.Rows L2

def spAlS : Sp := fun vs H Q _ => ∃ cs : List Nat, vs = [vS cs, vS cs] ∧ ∀ H', Same H H' → Q (.bl true) H'
def spAlL : Sp := fun vs H Q _ => ∃ (a b : Addr) (ws : List (List Nat)), vs = [.ref a, .ref b] ∧ H a = some (.lst (ws.map vS)) ∧ H b = some (.lst (ws.map vS)) ∧ ws.length ≤ 1000 ∧ ∀ H', Same H H' → Q (.bl true) H'
section
variable {P : Program} {w : World} {K : PySem.W.Frag} {mg : Str → Option Value} {base : Heap}
theorem scAl : FnScope ["_law_found", "_law_due", "_law_k"] ["_law_found", "_law_due"] (defScope sAlikeL) := ⟨rfl, rfl, rfl, by decide +kernel, rfl, by decide +kernel, by decide +kernel⟩
theorem cls2 : Paired ClsV [.ty "tuple", .ty "list"] [.type "tuple", .type "list"] := .cons (.ty _) (.cons (.ty _) .nil)
theorem any_str : PySem.W.kitAny K (.type "str") [.type "tuple", .type "list"] = some false :=
  kitAny_cons (b := false) (kit_ty (by decide +kernel)) (fun _ => kitAny_cons (b := false) (kit_ty (by decide +kernel)) (fun _ => kitAny_nil) (fun h => by cases h)) (fun h => by cases h)
theorem any_list : PySem.W.kitAny K (.type "list") [.type "tuple", .type "list"] = some true :=
  kitAny_cons (b := false) (kit_ty (by decide +kernel)) (fun _ => kitAny_cons (b := true) (kit_ty (by decide +kernel)) (fun h => by cases h) (fun _ => rfl)) (fun h => by cases h)
theorem ok_alS {f : Addr} {fd : FuncData} (F : Fun K "_law_alike" "_law_alike" sAlikeL f fd) (T : Txt mg) : FnOk P w K mg base CX0 1 f fd ["_law_found", "_law_due"] spAlS := by
  refine F.ok scAl (fun vs H Q E h => ?_) (fun cdv A outer s H vs Q E hr h => ?_)
  · obtain ⟨cs, rfl, _⟩ := h
    rfl
  · obtain ⟨cs, rfl, q⟩ := h
    refine ⟨_, pss_cons (ps_if (pt_val (pe_callB call_isiT (by rfl) T.isi (by decide +kernel) (pa_cons (pv 1) (pa_cons (pe_tup (pa_cons (pe_bltn (v := .ty "tuple") (u := .type "tuple") (by rfl) T.tuple (by decide +kernel) rfl) (pa_cons (pe_bltn (v := .ty "list") (u := .type "list") (by rfl) T.list (by decide +kernel) rfl) pa_nil))) pa_nil)))) pss_never pss_nil)
      (pss_cons (ps_if (PW.pt (pw_or (pt_cmpR op_isN (pv 1) pe_non (nomark _)) (pw_or1 (pt_val (pe_callB call_isi (by rfl) T.isi (by decide +kernel) (pa_cons (pv 1) (pa_cons (pe_bltn (v := .ty "str") (u := .type "str") (by rfl) T.str (by decide +kernel) rfl) pa_nil)))))))
        (pss_one (ps_ret (pe_and (pe_cmpR op_eq (pv 0) (pv 1) (nomark _)) (pe_one (pe_cmpR op_eq
          (pe_callB call_isi (by rfl) T.isi (by decide +kernel) (pa_cons (pv 0) (pa_cons (pe_bltn (v := .ty "str") (u := .type "str") (by rfl) T.str (by decide +kernel) rfl) pa_nil)))
          (pe_callB call_isi (by rfl) T.isi (by decide +kernel) (pa_cons (pv 1) (pa_cons (pe_bltn (v := .ty "str") (u := .type "str") (by rfl) T.str (by decide +kernel) rfl) pa_nil))) (nomark _)))))) pss_nil)
      (pss_one ps_never)), ?_⟩
    have kS : PySem.W.kitOne K (.type "str") (.type "str") = some true := kit_ty (by decide +kernel)
    refine ⟨vS cs, rfl, by show 2 ≤ sizeLine; decide, fun p np => ?_⟩
    refine ⟨vS cs, p, _, .type "str", _, false, rfl, upd_same, cls2, .base (.str _), any_str, false, rfl, iteF ?_⟩
    refine ⟨vS cs, rfl, rfl, false, rfl, iteF ?_⟩
    refine ⟨vS cs, rfl, vS cs, .ty "str", .type "str", .type "str", true, rfl, .ty _, .base (.str _), kS, true, rfl, iteT ?_⟩
    refine ⟨vS cs, rfl, vS cs, rfl, rfl, true, ?_, iteT ?_⟩
    · rw [decide_eq_true rfl]
    refine ⟨vS cs, rfl, vS cs, .ty "str", .type "str", .type "str", true, rfl, .ty _, .base (.str _), kS, ?_⟩
    refine ⟨vS cs, rfl, vS cs, .ty "str", .type "str", .type "str", true, rfl, .ty _, .base (.str _), kS, rfl, ?_⟩
    rw [decide_eq_true rfl]
    exact q _ (same_upd np)
theorem ok_alL {f : Addr} {fd : FuncData} (F : Fun K "_law_alike" "_law_alike" sAlikeL f fd) (T : Txt mg) (gA : mg "_law_alike" = some (.ref f)) (kA : PySem.W.keepIn K (.ref f) = true) (bA : Binds K fd ["_law_found", "_law_due"] []) :
    FnOk P w K mg base CX0 2 f fd ["_law_found", "_law_due"] spAlL := by
  have GS : FnOk P w K mg base CX0 1 f fd ["_law_found", "_law_due"] spAlS := ok_alS F T
  refine F.ok scAl (fun vs H Q E h => ?_) (fun cdv A outer s H vs Q E hr h => ?_)
  · obtain ⟨a, b, ws, rfl, _⟩ := h
    rfl
  · obtain ⟨a, b, ws, rfl, ha, hb, hl, q⟩ := h
    refine ⟨_, pss_cons (ps_if (pt_val (pe_callB call_isiT (by rfl) T.isi (by decide +kernel) (pa_cons (pv 1) (pa_cons (pe_tup (pa_cons (pe_bltn (v := .ty "tuple") (u := .type "tuple") (by rfl) T.tuple (by decide +kernel) rfl) (pa_cons (pe_bltn (v := .ty "list") (u := .type "list") (by rfl) T.list (by decide +kernel) rfl) pa_nil))) pa_nil))))
        (pss_cons (ps_if (PW.pt (pw_or
            (pt_not (pt_val (pe_callB call_isiT (by rfl) T.isi (by decide +kernel) (pa_cons (pv 0) (pa_cons (pe_tup (pa_cons (pe_bltn (v := .ty "tuple") (u := .type "tuple") (by rfl) T.tuple (by decide +kernel) rfl) (pa_cons (pe_bltn (v := .ty "list") (u := .type "list") (by rfl) T.list (by decide +kernel) rfl) pa_nil))) pa_nil)))))
            (pw_or1 (pt_cmpR op_ne
              (pe_callB call_isi (by rfl) T.isi (by decide +kernel) (pa_cons (pv 0) (pa_cons (pe_bltn (v := .ty "list") (u := .type "list") (by rfl) T.list (by decide +kernel) rfl) pa_nil)))
              (pe_callB call_isi (by rfl) T.isi (by decide +kernel) (pa_cons (pv 1) (pa_cons (pe_bltn (v := .ty "list") (u := .type "list") (by rfl) T.list (by decide +kernel) rfl) pa_nil))) (nomark _))))) (pss_one ps_never) pss_nil)
        (pss_cons (ps_if (pt_cmpR op_ne (pe_callB call_len (by rfl) T.len PySem.boot_len (pa_cons (pv 0) pa_nil)) (pe_callB call_len (by rfl) T.len PySem.boot_len (pa_cons (pv 1) pa_nil)) (nomark _)) (pss_one ps_never) pss_nil)
        (pss_one (ps_ret (pe_cmpR (op_eqD hr.units)
          (pe_lc (own := [("_law_k", 2)]) (g := gName 2) (by rfl) scAl.nd
            (pi_range1 (by rfl) T.range (pa_cons (pe_callB call_len (by rfl) T.len PySem.boot_len (pa_cons (pv 1) pa_nil)) pa_nil))
            (blkOk_by (own := [("_law_k", 2)]) (N := ["_law_found", "_law_due", "_law_k"]) (sc := defScope sAlikeL) (by decide +kernel))
            (fun _ _ _ _ _ => pg_name (i := 2) scAl.nd rfl (Or.inl rfl))
            (fun _ _ _ _ _ => pts_one (pt_not (pt_val (pe_call GS hr (by rfl) gA kA bA .nil pass0 (pa_cons (pe_ix (show IxR _ (rIxL K) from ix_list) (pv 0) (pv 2) (fun _ _ => rfl)) (pa_cons (pe_ix (show IxR _ (rIxL K) from ix_list) (pv 1) (pv 2) (fun _ _ => rfl)) pa_nil))))))
            (fun _ _ _ _ _ => pv 2))
          (pe_lst pa_nil) (nomark _)))))) pss_nil)
      pss_never, ?_⟩
    have kL : PySem.W.kitOne K (.type "list") (.type "list") = some true := kit_ty (by decide +kernel)
    -- isinstance(_law_due, (tuple, list))
    refine ⟨.ref b, rfl, by show 2 ≤ sizeLine; decide, fun p np => ?_⟩
    have s1 := same_upd (o := .tup [.ty "tuple", .ty "list"]) np
    refine ⟨.ref b, p, _, .type "list", _, true, rfl, upd_same, cls2, .base (.lst (s1 _ _ hb)), any_list, true, rfl, iteT ?_⟩
    -- not isinstance(_law_found, (tuple, list)) or ..
    refine ⟨.ref a, rfl, by show 2 ≤ sizeLine; decide, fun p2 np2 => ?_⟩
    have s2 := same_upd (o := .tup [.ty "tuple", .ty "list"]) np2
    have s12 := s1.trans s2
    refine ⟨.ref a, p2, _, .type "list", _, true, rfl, upd_same, cls2, .base (.lst (s12 _ _ ha)), any_list, true, rfl, iteF ?_⟩
    refine ⟨.ref a, rfl, .ref a, .ty "list", .type "list", .type "list", true, rfl, .ty _, .base (.lst (s12 _ _ ha)), kL, ?_⟩
    refine ⟨.ref b, rfl, .ref b, .ty "list", .type "list", .type "list", true, rfl, .ty _, .base (.lst (s12 _ _ hb)), kL, rfl, false, ?_, iteF ?_⟩
    · rw [decide_eq_true rfl]
      rfl
    -- len(_law_found) != len(_law_due)
    refine ⟨.ref a, rfl, .ref a, _, rfl, .inl ⟨_, SqL.of (s12 _ _ ha), rfl⟩, .ref b, rfl, .ref b, _, rfl, .inl ⟨_, SqL.of (s12 _ _ hb), rfl⟩, rfl, false, ?_, iteF ?_⟩
    · rw [decide_eq_true rfl]
      rfl
    -- [.. for _law_k in range(len(_law_due)) if not _law_alike(..)] == []
    refine ⟨.ref b, rfl, .ref b, _, rfl, .inl ⟨_, SqL.of (s12 _ _ hb), rfl⟩, (ws.map vS).length, rfl, by omega, by rw [List.length_map]; omega, fun D nD => ?_⟩
    have s3 := s12.trans (same_upd (o := .lst []) nD)
    refine lc_range (lo := 0) (n := (((ws.map vS).length : Nat) : Int).toNat) (fun i H2 => Same H H2 ∧ H2 D = some (.lst [])) ⟨s3, upd_same⟩ ?_ ?_
    · rintro i H2 hi ⟨sm, hD⟩
      have hi2 : i < ws.length := by rw [List.length_map] at hi; omega
      have hx : (ws.map vS)[i]? = some (vS ws[i]) := by
        rw [List.getElem?_map, List.getElem?_eq_getElem hi2]
        rfl
      refine ⟨rfl, ?_⟩
      refine ⟨.ref a, rfl, .int (0 + i), rfl, a, _, _, _, rfl, rfl, SqL.of (sm _ _ ha), at_of (j := i) (by omega) hx, ?_⟩
      refine ⟨.ref b, rfl, .int (0 + i), rfl, b, _, _, _, rfl, rfl, SqL.of (sm _ _ hb), at_of (j := i) (by omega) hx, ?_⟩
      refine ⟨_, rfl, fun H3 s4 => ⟨true, rfl, ?_⟩⟩
      exact iteF ⟨sm.trans s4, s4 _ _ hD⟩
    · rintro H2 ⟨sm, hD⟩
      refine ⟨Nat.zero_le _, fun e ne => ?_⟩
      have s5 := same_upd (o := .lst []) ne
      refine ⟨_, _, .lst (SqL.of (s5 _ _ hD)) .nil, .lst (SqL.of upd_same) .nil, by decide, by decide, ?_⟩
      exact q _ (sm.trans s5)
end
end Av

/-! The walk of law. -/
namespace Av
open PySem PySem.Spec PyProof.Rows L2

abbrev sLaw : Stmt := topS 28
theorem lw_all {size n : Nat} {v : List Nat} (h : v ∈ allW size n) : Lw v := fun c hc => by
  have h1 := (allW_mem.mp h).2 c hc
  have h2 : c ∈ [97, 98, 99] := List.mem_of_mem_take h1
  simp only [List.mem_cons, List.not_mem_nil, or_false] at h2
  omega
theorem kinds_sub {size n d : Nat} {v : List Nat} (h : v ∈ kindsL size n d) : v ∈ allW size n := by
  have h1 := (List.mergeSort_perm _ leS).mem_iff.mp h
  obtain ⟨p, hp, e⟩ := List.mem_map.mp h1
  rw [← e]
  exact (fst_all (fun w => tab w d) (allW size n)).sub p hp
theorem kinds_len (size n d : Nat) : (kindsL size n d).length = (firsts (fun w => tab w d) (allW size n)).length := by
  unfold kindsL
  rw [List.length_mergeSort, List.length_map]
theorem kinds_few {size n d : Nat} (b : Bnd size n) : (kindsL size n d).length ≤ 243 := by
  rw [kinds_len]
  exact Nat.le_trans (fst_all (fun w => tab w d) (allW size n)).len (b.few n (Nat.le_refl _))
theorem kinds_one {size n d : Nat} {o : List Nat} (h : o ∈ allW size n) : ((kindsL size n d).filter fun v => decide (tab v d = tab o d)).length = 1 := one_word (fun w => tab w d) (allW size n) h
theorem kinds_want {size n : Nat} (b : Bnd size n) : (kindsL size n 1).length = want size n := by
  rw [kinds_len]
  exact num_want b
theorem pick_most {size : Nat} (h : 1 ≤ size ∧ size ≤ 3) : ∃ m : Int, atI [V.int 10, .int 8, .int 6] ((size : Int) - 1) = some (.int m) ∧ 0 < m ∧ m < 1000 ∧ ∀ n : Nat, (n : Int) < m → Bnd size n := by
  have hs : size = 1 ∨ size = 2 ∨ size = 3 := by omega
  rcases hs with rfl | rfl | rfl
  · exact ⟨10, by decide, by decide, by decide, fun n hn => .inl ⟨rfl, by omega⟩⟩
  · exact ⟨8, by decide, by decide, by decide, fun n hn => .inr (.inl ⟨rfl, by omega⟩)⟩
  · exact ⟨6, by decide, by decide, by decide, fun n hn => .inr (.inr ⟨rfl, by omega⟩)⟩
theorem pick_many {size n : Nat} (h : 1 ≤ size ∧ size ≤ 3) : atI [V.int 1, .int ((n : Int) + 1), .int (((n : Int) + 1) * ((n : Int) + 2) / 2)] ((size : Int) - 1) = some (.int (want size n)) := by
  have hs : size = 1 ∨ size = 2 ∨ size = 3 := by omega
  rcases hs with rfl | rfl | rfl
  · exact at_of (j := 0) (by omega) rfl
  · exact at_of (j := 1) (by omega) rfl
  · refine at_of (j := 2) (by omega) ?_
    show some (V.int (((n : Int) + 1) * ((n : Int) + 2) / 2)) = some (V.int (((n + 1) * (n + 2) / 2 : Nat) : Int))
    rw [Int.natCast_ediv, Int.natCast_mul]
    rfl
theorem RowAt.same {H H' : Hp} {r a : Addr} (s : Same H H') (h : RowAt H r a) : RowAt H' r a := by
  obtain ⟨i, z, e, h1, h2⟩ := h
  exact ⟨i, z, e, s _ _ h1, h2⟩
def spLaw (K : PySem.W.Frag) : Sp := fun vs H Q _ => ∃ (a : Addr) (ns : List Int), vs = [.ref a] ∧ SqL K H a (ns.map V.int) ∧ ns.length ≤ 63 ∧ ∀ H', Q (.bl true) H'
section
variable {P : Program} {w : World} {K : PySem.W.Frag} {mg : Str → Option Value} {base : Heap}
theorem scLaw : FnScope ["_law_script", "_law_row", "_law_size", "_law_depth", "_law_length", "_law_known", "_law_due", "_law_word_here", "_law_told", "_law_found", "_law_one", "_law_many"] ["_law_script"] (defScope sLaw) := ⟨rfl, rfl, rfl, by decide +kernel, rfl, by decide +kernel, by decide +kernel⟩
theorem ok_law {f fT fA fP fK fL fW fE : Addr} {fd fdT fdA fdP fdK fdL fdW fdE : FuncData} (F : Fun K "law" "law" sLaw f fd) (T : Txt mg)
    (GT : FnOk P w K mg base CX0 1 fT fdT ["_law_row", "_law_many"] (spTaken K)) (gT : mg "_law_taken" = some (.ref fT)) (kT : PySem.W.keepIn K (.ref fT) = true) (bT : Binds K fdT ["_law_row", "_law_many"] [])
    (GA : FnOk P w K mg base CX0 1 fA fdA ["_law_size", "_law_length"] spAll) (gA : mg "_law_all" = some (.ref fA)) (kA : PySem.W.keepIn K (.ref fA) = true) (bA : Binds K fdA ["_law_size", "_law_length"] [])
    (GP : FnOk P w K mg base CX0 4 fP fdP ["word", "depth"] spPart) (gP : mg "part_table" = some (.ref fP)) (kP : PySem.W.keepIn K (.ref fP) = true) (bP : Binds K fdP ["word", "depth"] [])
    (GK : FnOk P w K mg base CX0 4 fK fdK ["size", "length", "depth"] spKinds) (gK : mg "kinds" = some (.ref fK)) (kK : PySem.W.keepIn K (.ref fK) = true) (bK : Binds K fdK ["size", "length", "depth"] [])
    (GL : FnOk P w K mg base CX0 2 fL fdL ["_law_found", "_law_due"] spAlL) (gL : mg "_law_alike" = some (.ref fL)) (kL : PySem.W.keepIn K (.ref fL) = true) (bL : Binds K fdL ["_law_found", "_law_due"] [])
    (GW : FnOk P w K mg base CX0 2 fW fdW ["_law_row", "_law_size", "_law_least", "_law_most"] (spWord K)) (gW : mg "_law_word" = some (.ref fW)) (kW : PySem.W.keepIn K (.ref fW) = true) (bW : Binds K fdW ["_law_row", "_law_size", "_law_least", "_law_most"] [])
    (GE : FnOk P w K mg base CX0 4 fE fdE ["one", "other", "depth"] spAlike) (gE : mg "are_alike" = some (.ref fE)) (kE : PySem.W.keepIn K (.ref fE) = true) (bE : Binds K fdE ["one", "other", "depth"] []) :
    FnOk P w K mg base CX0 5 f fd ["_law_script"] (spLaw K) := by
  refine F.ok scLaw (fun vs H Q E h => ?_) (fun cdv A outer s H vs Q E hr h => ?_)
  · obtain ⟨a, ns, rfl, _⟩ := h
    rfl
  · obtain ⟨a, ns, rfl, hS, h63, q⟩ := h
    have hu := hr.units
    have hr1 : Room 1 _ := hr.mono (by decide)
    have hr2 : Room 2 _ := hr.mono (by decide)
    refine ⟨_, pss_cons (ps_set (i := 1) scLaw.nd rfl (.inl rfl) (pe_lst (pa_cons (pv 0) (pa_cons pe_int (pa_cons pe_int (pa_cons pe_int pa_nil))))))
      (pss_cons (ps_asg (pe_tup (pa_cons (pe_op op_add pe_int (pe_call GT hr1 (by rfl) gT kT bT .nil pass0 (pa_cons (pv 1) (pa_cons pe_int pa_nil)))) (pa_cons (pe_op op_add pe_int (pe_call GT hr1 (by rfl) gT kT bT .nil pass0 (pa_cons (pv 1) (pa_cons pe_int pa_nil)))) pa_nil)))
        (pg_tup rfl (pgs_cons (pg_name (i := 2) scLaw.nd rfl (.inl rfl)) (pgs_cons (pg_name (i := 3) scLaw.nd rfl (.inr rfl)) pgs_nil))))
      (pss_cons (ps_set (i := 4) scLaw.nd rfl (.inl rfl) (pe_call GT hr1 (by rfl) gT kT bT .nil pass0 (pa_cons (pv 1) (pa_cons (pe_ix ix_list (pe_lst (pa_cons pe_int (pa_cons pe_int (pa_cons pe_int pa_nil)))) (pe_op op_sub (pv 2) pe_int) (fun _ _ => rfl)) pa_nil))))
      (pss_cons (ps_par (i := 5) (j := 6) (by rfl) scLaw.nd rfl rfl (by decide) rfl rfl (pa_cons pe_ndnew (pa_cons (pe_lst pa_nil) pa_nil)) (by rfl))
      (pss_cons (ps_for PassesOwn.never rfl (pi_list (pe_call GA hr1 (by rfl) gA kA bA .nil pass0 (pa_cons (pv 2) (pa_cons (pv 4) pa_nil)))) (pg_name (i := 7) scLaw.nd rfl (.inl rfl))
        (pss_cons (ps_set (i := 8) scLaw.nd rfl (.inl rfl) (pe_call GP hr (by rfl) gP kP bP .nil pass0 (pa_cons (pv 7) (pa_cons (pv 3) pa_nil))))
        (pss_one (ps_if (pt_cmpR (op_ndNotIn hu) (pv 8) (pv 5) (by rfl))
          (pss_cons (ps_asg (pv 7) (pg_sub (pv 5) (pv 8) (set_nd hu)))
          (pss_one (ps_expr (pe_bm PySem.F.plainAttrs_list PySem.F.slot_list_append PySem.F.type_list_append mt_append (pv 6) (pa_cons (pv 7) pa_nil))))) pss_nil))))
      (pss_cons (ps_set (i := 9) scLaw.nd rfl (.inl rfl) (pe_call GK hr (by rfl) gK kK bK .nil pass0 (pa_cons (pv 2) (pa_cons (pv 4) (pa_cons (pv 3) pa_nil)))))
      (pss_cons (ps_if (pt_not (pt_val (pe_call GL hr2 (by rfl) gL kL bL .nil pass0 (pa_cons (pv 9) (pa_cons (pe_callB (cr_sortT hu) (by rfl) T.sorted (by decide +kernel) (pa_cons (pv 6) pa_nil)) pa_nil))))) (pss_one ps_never) pss_nil)
      (pss_cons (ps_set (i := 10) scLaw.nd rfl (.inr rfl) (pe_call GW hr2 (by rfl) gW kW bW .nil pass0 (pa_cons (pv 1) (pa_cons (pv 2) (pa_cons (pv 4) (pa_cons (pv 4) pa_nil))))))
      (pss_cons (ps_if (pt_cmpR op_ne (pe_callB call_len (by rfl) T.len PySem.boot_len (pa_cons
          (pe_lc (own := [("_law_word_here", 7)]) (g := gName 7) (by rfl) scLaw.nd (pi_list (pv 9))
            (blkOk_by (own := [("_law_word_here", 7)]) (N := ["_law_script", "_law_row", "_law_size", "_law_depth", "_law_length", "_law_known", "_law_due", "_law_word_here", "_law_told", "_law_found", "_law_one", "_law_many"]) (sc := defScope sLaw) (by decide +kernel))
            (fun _ _ _ _ _ => pg_name (i := 7) scLaw.nd rfl (Or.inl rfl))
            (fun _ _ _ _ _ => pts_one (pt_val (pe_call GE hr (by rfl) gE kE bE .nil pass0 (pa_cons (pv 7) (pa_cons (pv 10) (pa_cons (pv 3) pa_nil))))))
            (fun _ _ _ _ _ => pv 7)) pa_nil)) pe_int (nomark _)) (pss_one ps_never) pss_nil)
      (pss_cons (ps_set (i := 11) scLaw.nd rfl (.inl rfl) (pe_ix ix_list (pe_lst (pa_cons pe_int (pa_cons (pe_op op_add (pv 4) pe_int) (pa_cons (pe_op op_fdiv (pe_op op_mul (pe_op op_add (pv 4) pe_int) (pe_op op_add (pv 4) pe_int)) pe_int) pa_nil)))) (pe_op op_sub (pv 2) pe_int) (fun _ _ => rfl)))
      (pss_one (ps_ret (pe_cmpR op_eq (pe_callB call_len (by rfl) T.len PySem.boot_len (pa_cons (pe_call GK hr (by rfl) gK kK bK .nil pass0 (pa_cons (pv 2) (pa_cons (pv 4) (pa_cons pe_int pa_nil)))) pa_nil)) (pv 11) (nomark _))))))))))))), ?_⟩
    -- _law_row = [_law_script, 0, 4422, 0]
    refine ⟨.ref a, rfl, by show 4 ≤ sizeLine; decide, fun r nr => ?_⟩
    have sm1 : Same H (upd H r (.lst [.ref a, .int 0, .int 4422, .int 0])) := same_upd nr
    have R1 : RowAt (upd H r (.lst [.ref a, .int 0, .int 4422, .int 0])) r a := ⟨0, 4422, 0, upd_same, by decide, by decide, by decide⟩
    have off : ∀ {H1 H2 : Hp}, Same H H1 → (∀ b, b ≠ r → H2 b = H1 b) → Same H H2 := fun s1 o b x e => by rw [o b (ne_of_none e nr)]; exact s1 b x e
    generalize upd H r (.lst [.ref a, .int 0, .int 4422, .int 0]) = H1 at sm1 R1 ⊢
    -- 1 + _law_taken(_law_row, 3)
    refine ⟨.ref r, rfl, r, a, ns, 3, rfl, R1, sm1.seq hS, h63, by decide, by decide, fun v1 H2 v10 v11 R2 o2 => ?_⟩
    have sm2 := off sm1 o2
    refine ⟨1, v1, rfl, rfl, ?_⟩
    refine ⟨.ref r, rfl, r, a, ns, 4, rfl, R2, sm2.seq hS, h63, by decide, by decide, fun v2 H3 v20 v21 R3 o3 => ?_⟩
    have sm3 := off sm2 o3
    refine ⟨1, v2, rfl, rfl, by show 2 ≤ sizeLine; decide, fun tp ntp => ?_⟩
    obtain ⟨size, es⟩ : ∃ size : Nat, (1 : Int) + v1 = (size : Int) := ⟨(1 + v1).toNat, by omega⟩
    obtain ⟨d, ed⟩ : ∃ d : Nat, (1 : Int) + v2 = (d : Int) := ⟨(1 + v2).toNat, by omega⟩
    have hsz : 1 ≤ size ∧ size ≤ 3 := by omega
    have hd : 1 ≤ d ∧ d ≤ 6 := by omega
    have es' : ((fun i j : Int => V.int (i + j)) 1 v1) = V.int (size : Int) := congrArg V.int es
    have ed' : ((fun i j : Int => V.int (i + j)) 1 v2) = V.int (d : Int) := congrArg V.int ed
    rw [es', ed']
    have sm4 := sm3.trans (same_upd (o := .tup [.int size, .int d]) ntp)
    have R4 := R3.same (same_upd (o := .tup [.int size, .int d]) ntp)
    refine ⟨tp, _, rfl, SqT.of upd_same, rfl, .int size, [.int d], rfl, .int d, [], rfl, rfl, ?_⟩
    generalize upd H3 tp (.tup [.int size, .int d]) = H4 at sm4 R4 ⊢
    -- _law_length
    refine ⟨.ref r, rfl, by show 3 ≤ sizeLine; decide, fun l nl => ?_⟩
    have s5 := same_upd (o := .lst [V.int 10, .int 8, .int 6]) nl
    obtain ⟨m, hm, m0, m1, hB⟩ := pick_most hsz
    refine ⟨.int size, rfl, size, 1, rfl, rfl, l, _, _, _, rfl, rfl, SqL.of upd_same, hm, ?_⟩
    refine ⟨r, a, ns, m, rfl, R4.same s5, (sm4.trans s5).seq hS, h63, m0, m1, fun v3 H5 v30 v31 R5 o5 => ?_⟩
    have sm5 := off (sm4.trans s5) o5
    obtain ⟨n, rfl⟩ : ∃ n : Nat, v3 = (n : Int) := ⟨v3.toNat, by omega⟩
    have hb : Bnd size n := hB n v31
    have hn := hb.len
    -- _law_known, _law_due = {}, []
    intro kn H6 nk6 ND6 o6
    refine ⟨Nat.zero_le _, fun du ndu => ?_⟩
    have s6 : Same H5 H6 := fun b o e => by rw [o6 b (ne_of_none e nk6)]; exact e
    have s7 := same_upd (o := .lst []) ndu
    refine ⟨_, _, rfl, ?_⟩
    -- _law_all(_law_size, _law_length)
    refine ⟨.int size, rfl, .int n, rfl, size, n, rfl, hb, fun H8 al s8 hal => ?_⟩
    have s58 : Same H5 H8 := (s6.trans s7).trans s8
    have ND8 : ND P w H8 kn (kvF (firsts (fun w => tab w d) ((allW size n).take 0))) := (ND6.same s7).same s8
    have hdu : H8 du = some (.lst []) := s8 _ _ upd_same
    have hkn : kn ≠ du := by
      obtain ⟨_, _, _, xs, e, _⟩ := ND8
      exact ne_of e hdu (by intro z; cases z)
    have alk : al ≠ kn := by
      obtain ⟨_, _, _, xs, e, _⟩ := ND8
      exact ne_of hal e (by intro z; cases z)
    have ald : al ≠ du := ne_of hal hdu (by
      intro z
      injection z with z
      have z2 := congrArg List.length z
      rw [List.length_map, allW_len hsz.2] at z2
      exact absurd z2 (Nat.ne_of_gt (Nat.pow_pos (by omega))))
    have few : (allW size n).length ≤ 243 := hb.few n (Nat.le_refl _)
    refine ⟨al, rfl, ⟨_, SqL.of hal⟩, for_list (K := K) (a := al) (xs := (allW size n).map vS) (fun i σ H9 => ∃ y7 y8, σ = [some (.ref a), some (.ref r), some (.int size), some (.int d), some (.int n), some (.ref kn), some (.ref du), y7, y8, none, none, none] ∧
        (∀ b o, b ≠ kn → b ≠ du → H8 b = some o → H9 b = some o) ∧ ND P w H9 kn (kvF (firsts (fun w => tab w d) ((allW size n).take i))) ∧ H9 du = some (.lst (((firsts (fun w => tab w d) ((allW size n).take i)).map (·.2)).map vS)))
      ⟨none, none, rfl, (fun b o _ _ e => e), ND8, hdu⟩ (fun i σ H9 _ ⟨_, _, _, k9, _⟩ => SqL.of (k9 _ _ alk ald hal)) ?_ ?_⟩
    · rintro i x σ H9 hx ⟨y7, y8, rfl, k9, N9, D9⟩
      obtain ⟨z, hz0, rfl⟩ := get_vS hx
      have zm : z ∈ allW size n := List.mem_of_getElem? hz0
      have zl := (allW_mem.mp zm).1
      have lenF : (firsts (fun w => tab w d) ((allW size n).take i)).length ≤ 243 := by
        have := (fst_all (fun w => tab w d) ((allW size n).take i)).len
        rw [List.length_take] at this
        omega
      -- _law_told = part_table(_law_word_here, _law_depth)
      refine ⟨vS z, rfl, .int d, rfl, z, d, rfl, lw_all zm, by omega, hd.1, hd.2, fun H10 p s10 tp10 => ?_⟩
      have N10 := N9.same s10
      have k10 : ∀ b o, b ≠ kn → b ≠ du → H8 b = some o → H10 b = some o := fun b o h1 h2 e => s10 _ _ (k9 b o h1 h2 e)
      -- if _law_told not in _law_known
      refine ⟨.ref p, rfl, .ref kn, rfl, p, kn, tab z d, _, rfl, rfl, tp10, N10, _, rfl, ?_⟩
      cases hv : valV (kvF (firsts (fun w => tab w d) ((allW size n).take i))) (tab z d) with
      | some v =>
        refine iteF ⟨_, _, rfl, k10, ?_, ?_⟩
        · rw [firsts_take hz0, kvF_stay (f := fun w => tab w d) hv]
          exact N10
        · rw [firsts_take hz0, kvF_stay (f := fun w => tab w d) hv]
          exact s10 _ _ D9
      | none =>
        refine iteT ?_
        refine ⟨vS z, rfl, .ref kn, rfl, .ref p, rfl, kn, p, tab z d, _, rfl, rfl, tp10, N10, by rw [kvF_len]; exact small1000 (by omega), hv, fun H11 N11 o11 => ?_⟩
        have D11 : H11 du = some (.lst (((firsts (fun w => tab w d) ((allW size n).take i)).map (·.2)).map vS)) := by rw [o11 du (Ne.symm hkn)]; exact s10 _ _ D9
        -- _law_due.append(_law_word_here)
        refine ⟨.ref du, rfl, .inl ⟨rfl, _, SqL.of D11⟩, vS z, rfl, du, _, _, rfl, rfl, D11, by rw [List.length_map, List.length_map]; exact small1000 (by omega), ?_⟩
        have stp : firsts (fun w => tab w d) ((allW size n).take (i + 1)) = firsts (fun w => tab w d) ((allW size n).take i) ++ [(tab z d, z)] := by
          rw [firsts_take hz0]
          have q0 := kvF_any (firsts (fun w => tab w d) ((allW size n).take i)) (tab z d)
          rw [hv] at q0
          unfold step
          rw [← q0]
          rfl
        refine ⟨_, _, rfl, fun b o h1 h2 e => ?_, ?_, ?_⟩
        · rw [upd_ne h2, o11 b h1]
          exact k10 b o h1 h2 e
        · have e2 : kvF (firsts (fun w => tab w d) ((allW size n).take (i + 1))) = kvF (firsts (fun w => tab w d) ((allW size n).take i)) ++ [(tab z d, vS z)] := by
            rw [firsts_take hz0]
            exact kvF_step (f := fun w => tab w d) hv
          rw [e2]
          obtain ⟨g1, g2, g3, xs, g4, g5⟩ := N11
          refine ⟨g1, g2, g3, xs, by rw [upd_ne hkn]; exact g4, g5.same fun b ys e => ?_⟩
          rw [upd_ne (ne_of e D11 (by intro z; cases z))]
          exact e
        · rw [upd_same, stp, List.map_append, List.map_append]
          rfl
    · rintro σ H9 ⟨y7, y8, rfl, k9, N9, D9⟩
      rw [List.length_map, List.take_length] at D9
      -- what stood ahead of the loop's own two objects stands
      have s59 : Same H5 H9 := fun b o e => by
        have b1 : b ≠ kn := ne_of_none e nk6
        have b2 : b ≠ du := ne_of_none (s6 _ _ e) ndu
        exact k9 b o b1 b2 (s58 _ _ e)
      have sm9 := sm5.trans s59
      have R9 := R5.same s59
      -- _law_found = kinds(..)
      refine ⟨.int size, rfl, .int n, rfl, .int d, rfl, size, n, d, rfl, hb, hd.1, hd.2, fun H10 fo s10 hfo => ?_⟩
      -- not _law_alike(_law_found, sorted(_law_due))
      refine ⟨.ref fo, rfl, .ref du, rfl, du, _, rfl, SqL.of (s10 _ _ D9), fun so nso => ?_⟩
      have s11 := same_upd (o := .lst ((kindsL size n d).map vS)) nso
      refine ⟨fo, so, kindsL size n d, rfl, s11 _ _ hfo, upd_same, by have := kinds_few (d := d) hb; omega, fun H12 s12 => ⟨true, rfl, iteF ?_⟩⟩
      have s9c := (s10.trans s11).trans s12
      have hfo12 := s12 _ _ (s11 _ _ hfo)
      have R12 := R9.same s9c
      have fr : fo ≠ r := by
        obtain ⟨i0, z0, e0, h0, _⟩ := R12
        refine ne_of hfo12 h0 fun z => ?_
        injection z with z
        cases hk : kindsL size n d with
        | nil =>
          rw [hk] at z
          cases z
        | cons x xs =>
          rw [hk] at z
          injection z with z1 _
          cases z1
      -- _law_one = _law_word(..)
      refine ⟨.ref r, rfl, .int size, rfl, .int n, rfl, .int n, rfl, r, a, ns, size, n, rfl, R12, (sm9.trans s9c).seq hS, h63, hb, fun cs H13 hcs R13 o13 => ?_⟩
      have hfo13 := o13 _ _ fr hfo12
      -- [.. for _law_word_here in _law_found if are_alike(..)]
      refine ⟨.ref fo, rfl, fo, rfl, ⟨_, SqL.of hfo13⟩, fun D nD => ?_⟩
      refine lc_list (K := K) (a := fo) (xs := (kindsL size n d).map vS) (fun i H14 => Same H13 H14 ∧ H14 D = some (.lst ((((kindsL size n d).take i).filter fun v => decide (tab v d = tab cs d)).map vS)))
        ⟨same_upd nD, upd_same⟩ (fun i H14 _ ⟨s14, _⟩ => SqL.of (s14 _ _ hfo13)) ?_ ?_
      · rintro i x H14 hx ⟨s14, D14⟩
        obtain ⟨v, hv0, rfl⟩ := get_vS hx
        have vm := kinds_sub (List.mem_of_getElem? hv0)
        have vl := (allW_mem.mp vm).1
        have cl := (allW_mem.mp hcs).1
        refine ⟨rfl, ?_⟩
        refine ⟨vS v, rfl, vS cs, rfl, .int d, rfl, v, cs, d, rfl, lw_all vm, by omega, lw_all hcs, by omega, hd.1, hd.2, fun H15 s15 => ⟨_, rfl, ?_⟩⟩
        have e1 : ((kindsL size n d).take (i + 1)).filter (fun v => decide (tab v d = tab cs d)) = ((kindsL size n d).take i).filter (fun v => decide (tab v d = tab cs d)) ++ [v].filter (fun v => decide (tab v d = tab cs d)) := by
          rw [List.take_add_one, hv0, List.filter_append]
          rfl
        by_cases e : tab v d = tab cs d
        · rw [decide_eq_true e]
          refine iteT ⟨vS v, rfl, _, s15 _ _ D14, ?_, fun b o e2 => ?_, ?_⟩
          · rw [List.length_map]
            have h1 := List.length_filter_le (fun v => decide (tab v d = tab cs d)) ((kindsL size n d).take i)
            rw [List.length_take] at h1
            have h2 := kinds_few (d := d) hb
            exact small1000 (by omega)
          · rw [upd_ne (ne_of_none e2 nD)]
            exact s15 _ _ (s14 _ _ e2)
          · rw [upd_same, e1, List.filter_cons_of_pos (by simpa using e), List.map_append]
            rfl
        · rw [decide_eq_false e]
          refine iteF ⟨s14.trans s15, ?_⟩
          rw [e1, List.filter_cons_of_neg (by simpa using e), List.filter_nil, List.append_nil]
          exact s15 _ _ D14
      · rintro H14 ⟨s14, D14⟩
        rw [List.length_map, List.take_length] at D14
        -- len(..) != 1
        refine ⟨.ref D, _, rfl, .inl ⟨_, SqL.of D14, rfl⟩, rfl, false, ?_, iteF ?_⟩
        · rw [List.length_map, kinds_one hcs, show (V.int ((1 : Nat) : Int)) = V.int 1 from rfl, decide_eq_true rfl]
          rfl
        -- _law_many
        refine ⟨.int n, rfl, n, 1, rfl, rfl, .int n, rfl, n, 1, rfl, rfl, .int n, rfl, n, 2, rfl, rfl, (n : Int) + 1, (n : Int) + 2, rfl, rfl, .inl ⟨by omega, by omega⟩, _, 2, rfl, rfl, ⟨by decide, by decide⟩, by show 3 ≤ sizeLine; decide, fun l2 nl2 => ?_⟩
        have s15 := same_upd (o := .lst [V.int 1, .int ((n : Int) + 1), .int (((n : Int) + 1) * ((n : Int) + 2) / 2)]) nl2
        refine ⟨.int size, rfl, size, 1, rfl, rfl, l2, _, _, _, rfl, rfl, SqL.of upd_same, pick_many hsz, ?_⟩
        -- len(kinds(.., 1)) == _law_many
        refine ⟨.int size, rfl, .int n, rfl, size, n, 1, rfl, hb, by decide, by decide, fun H16 kk s16 hkk => ?_⟩
        refine ⟨.ref kk, _, rfl, .inl ⟨_, SqL.of hkk, rfl⟩, .int (want size n), rfl, rfl, ?_⟩
        rw [List.length_map, kinds_want hb, decide_eq_true rfl]
        exact q H16
end
end Av

/-! The end: what the top has written, and the law. Printed by genz.py. -/
namespace Av
open PySem PySem.Spec PyProof.Rows L2

theorem all_mk {l : PySem.W.OpenLaw} {w : World} {K : PySem.W.Frag} {h : Heap} {mg : Str → Option Value} {fa fII fIN fIW fNW fNS fND fTO fPT fAA fKI fLT fLA fLW fLL fLM TW : Addr} (X : K.In h) (G : h.Ns mainGlobals mg) (hfa : mg "law" = some (.ref fa))
    {ocII kVII dcII pmII cdII ctII ocIN kVIN dcIN pmIN cdIN ctIN ocIW kVIW dcIW pmIW cdIW ctIW ocNW kVNW dcNW pmNW cdNW ctNW ocNS kVNS dcNS pmNS cdNS ctNS ocND kVND dcND pmND cdND ctND ocTO kVTO dcTO pmTO cdTO ctTO ocPT kVPT dcPT pmPT cdPT ctPT ocAA kVAA dcAA pmAA cdAA ctAA ocKI kVKI dcKI pmKI cdKI ctKI ocLT kVLT dcLT pmLT cdLT ctLT ocLA kVLA dcLA pmLA cdLA ctLA ocLW kVLW dcLW pmLW cdLW ctLW ocLL kVLL dcLL pmLL cdLL ctLL ocLM kVLM dcLM pmLM cdLM ctLM ocT : Value} {odII anII odIN anIN odIW anIW odNW anNW odNS anNS odND anND odTO anTO odPT anPT odAA anAA odKI anKI odLT anLT odLA anLA odLW anLW odLL anLL odLM anLM odT : Option Addr} {slII slIN slIW slNW slNS slND slTO slPT slAA slKI slLT slLA slLW slLL slLM slT : Array (Option Value)} {nT : Nat} {tkT tc1 tc2 tc3 tc4 tc5 : Tok}
    (aII : PySem.W.nsIn K mainGlobals "is_int" = some (some (.ref fII))) (lII : K.lookup fII = some ⟨ocII, odII, .func (PySem.W.fnOf "is_int" "is_int" (defArgs sIsInt) (defBody sIsInt) (defScope sIsInt) .none kVII dcII pmII anII cdII ctII), slII⟩) (cII : PySem.W.codeIn K cdII "is_int" = true) (kII : PySem.W.keepIn K (.ref fII) = true)
    (aIN : PySem.W.nsIn K mainGlobals "is_in" = some (some (.ref fIN))) (lIN : K.lookup fIN = some ⟨ocIN, odIN, .func (PySem.W.fnOf "is_in" "is_in" (defArgs sIsIn) (defBody sIsIn) (defScope sIsIn) .none kVIN dcIN pmIN anIN cdIN ctIN), slIN⟩) (cIN : PySem.W.codeIn K cdIN "is_in" = true) (kIN : PySem.W.keepIn K (.ref fIN) = true)
    (aIW : PySem.W.nsIn K mainGlobals "is_word" = some (some (.ref fIW))) (lIW : K.lookup fIW = some ⟨ocIW, odIW, .func (PySem.W.fnOf "is_word" "is_word" (defArgs sIsWord) (defBody sIsWord) (defScope sIsWord) (.ref TW) kVIW dcIW pmIW anIW cdIW ctIW), slIW⟩) (cIW : PySem.W.codeIn K cdIW "is_word" = true) (kIW : PySem.W.keepIn K (.ref fIW) = true)
    (aNW : PySem.W.nsIn K mainGlobals "need_word" = some (some (.ref fNW))) (lNW : K.lookup fNW = some ⟨ocNW, odNW, .func (PySem.W.fnOf "need_word" "need_word" (defArgs sNeedWord) (defBody sNeedWord) (defScope sNeedWord) .none kVNW dcNW pmNW anNW cdNW ctNW), slNW⟩) (cNW : PySem.W.codeIn K cdNW "need_word" = true) (kNW : PySem.W.keepIn K (.ref fNW) = true)
    (aNS : PySem.W.nsIn K mainGlobals "need_size" = some (some (.ref fNS))) (lNS : K.lookup fNS = some ⟨ocNS, odNS, .func (PySem.W.fnOf "need_size" "need_size" (defArgs sNeedSize) (defBody sNeedSize) (defScope sNeedSize) .none kVNS dcNS pmNS anNS cdNS ctNS), slNS⟩) (cNS : PySem.W.codeIn K cdNS "need_size" = true) (kNS : PySem.W.keepIn K (.ref fNS) = true)
    (aND : PySem.W.nsIn K mainGlobals "need_depth" = some (some (.ref fND))) (lND : K.lookup fND = some ⟨ocND, odND, .func (PySem.W.fnOf "need_depth" "need_depth" (defArgs sNeedDepth) (defBody sNeedDepth) (defScope sNeedDepth) .none kVND dcND pmND anND cdND ctND), slND⟩) (cND : PySem.W.codeIn K cdND "need_depth" = true) (kND : PySem.W.keepIn K (.ref fND) = true)
    (aTO : PySem.W.nsIn K mainGlobals "table_of" = some (some (.ref fTO))) (lTO : K.lookup fTO = some ⟨ocTO, odTO, .func (PySem.W.fnOf "table_of" "table_of" (defArgs sTableOf) (defBody sTableOf) (defScope sTableOf) .none kVTO dcTO pmTO anTO cdTO ctTO), slTO⟩) (cTO : PySem.W.codeIn K cdTO "table_of" = true) (kTO : PySem.W.keepIn K (.ref fTO) = true)
    (aPT : PySem.W.nsIn K mainGlobals "part_table" = some (some (.ref fPT))) (lPT : K.lookup fPT = some ⟨ocPT, odPT, .func (PySem.W.fnOf "part_table" "part_table" (defArgs sPartTable) (defBody sPartTable) (defScope sPartTable) .none kVPT dcPT pmPT anPT cdPT ctPT), slPT⟩) (cPT : PySem.W.codeIn K cdPT "part_table" = true) (kPT : PySem.W.keepIn K (.ref fPT) = true)
    (aAA : PySem.W.nsIn K mainGlobals "are_alike" = some (some (.ref fAA))) (lAA : K.lookup fAA = some ⟨ocAA, odAA, .func (PySem.W.fnOf "are_alike" "are_alike" (defArgs sAreAlike) (defBody sAreAlike) (defScope sAreAlike) .none kVAA dcAA pmAA anAA cdAA ctAA), slAA⟩) (cAA : PySem.W.codeIn K cdAA "are_alike" = true) (kAA : PySem.W.keepIn K (.ref fAA) = true)
    (aKI : PySem.W.nsIn K mainGlobals "kinds" = some (some (.ref fKI))) (lKI : K.lookup fKI = some ⟨ocKI, odKI, .func (PySem.W.fnOf "kinds" "kinds" (defArgs sKinds) (defBody sKinds) (defScope sKinds) .none kVKI dcKI pmKI anKI cdKI ctKI), slKI⟩) (cKI : PySem.W.codeIn K cdKI "kinds" = true) (kKI : PySem.W.keepIn K (.ref fKI) = true)
    (aLT : PySem.W.nsIn K mainGlobals "_law_taken" = some (some (.ref fLT))) (lLT : K.lookup fLT = some ⟨ocLT, odLT, .func (PySem.W.fnOf "_law_taken" "_law_taken" (defArgs sTaken) (defBody sTaken) (defScope sTaken) .none kVLT dcLT pmLT anLT cdLT ctLT), slLT⟩) (cLT : PySem.W.codeIn K cdLT "_law_taken" = true) (kLT : PySem.W.keepIn K (.ref fLT) = true)
    (aLA : PySem.W.nsIn K mainGlobals "_law_alike" = some (some (.ref fLA))) (lLA : K.lookup fLA = some ⟨ocLA, odLA, .func (PySem.W.fnOf "_law_alike" "_law_alike" (defArgs sAlikeL) (defBody sAlikeL) (defScope sAlikeL) .none kVLA dcLA pmLA anLA cdLA ctLA), slLA⟩) (cLA : PySem.W.codeIn K cdLA "_law_alike" = true) (kLA : PySem.W.keepIn K (.ref fLA) = true)
    (aLW : PySem.W.nsIn K mainGlobals "_law_word" = some (some (.ref fLW))) (lLW : K.lookup fLW = some ⟨ocLW, odLW, .func (PySem.W.fnOf "_law_word" "_law_word" (defArgs sWord) (defBody sWord) (defScope sWord) .none kVLW dcLW pmLW anLW cdLW ctLW), slLW⟩) (cLW : PySem.W.codeIn K cdLW "_law_word" = true) (kLW : PySem.W.keepIn K (.ref fLW) = true)
    (aLL : PySem.W.nsIn K mainGlobals "_law_all" = some (some (.ref fLL))) (lLL : K.lookup fLL = some ⟨ocLL, odLL, .func (PySem.W.fnOf "_law_all" "_law_all" (defArgs sAll) (defBody sAll) (defScope sAll) .none kVLL dcLL pmLL anLL cdLL ctLL), slLL⟩) (cLL : PySem.W.codeIn K cdLL "_law_all" = true) (kLL : PySem.W.keepIn K (.ref fLL) = true)
    (aLM : PySem.W.nsIn K mainGlobals "law" = some (some (.ref fLM))) (lLM : K.lookup fLM = some ⟨ocLM, odLM, .func (PySem.W.fnOf "law" "law" (defArgs sLaw) (defBody sLaw) (defScope sLaw) .none kVLM dcLM pmLM anLM cdLM ctLM), slLM⟩) (cLM : PySem.W.codeIn K cdLM "law" = true) (kLM : PySem.W.keepIn K (.ref fLM) = true)
    (lT : K.lookup TW = some ⟨ocT, odT, .seq #[.int 200 tkT] nT, slT⟩)
    (gc1 : PySem.W.nsIn K mainGlobals "LETTERS" = some (some (.str "abcdefghijklmnopqrstuvwxyz" tc1)))
    (gc2 : PySem.W.nsIn K mainGlobals "MOST_SIZE" = some (some (.int 6 tc2)))
    (gc3 : PySem.W.nsIn K mainGlobals "MOST_DEPTH" = some (some (.int 6 tc3)))
    (gc4 : PySem.W.nsIn K mainGlobals "MOST_WORDS" = some (some (.int 5000 tc4)))
    (gc5 : PySem.W.nsIn K mainGlobals "MOST_LENGTH_kinds" = some (some (.int 40 tc5)))
    (z_isinstance : PySem.W.nsIn K mainGlobals "isinstance" = some none)
    (z_int : PySem.W.nsIn K mainGlobals "int" = some none)
    (z_bool : PySem.W.nsIn K mainGlobals "bool" = some none)
    (z_str : PySem.W.nsIn K mainGlobals "str" = some none)
    (z_len : PySem.W.nsIn K mainGlobals "len" = some none)
    (z_all : PySem.W.nsIn K mainGlobals "all" = some none)
    (z_range : PySem.W.nsIn K mainGlobals "range" = some none)
    (z_tuple : PySem.W.nsIn K mainGlobals "tuple" = some none)
    (z_list : PySem.W.nsIn K mainGlobals "list" = some none)
    (z_sorted : PySem.W.nsIn K mainGlobals "sorted" = some none)
    : ∃ fd : FuncData, (∀ (s : Shared) (v : Value), BindsTo s fd ⟨[v], []⟩ [("_law_script", v)]) ∧ ∀ base : Heap, K.In base → base.Ns mainGlobals mg → FnOk l.prog w K mg base CX0 5 fa fd ["_law_script"] (spLaw K) := by
  have e := hfa.symm.trans (PySem.W.mg_of X G aLM)
  cases e
  have T : Txt mg := ⟨PySem.W.mg_none_of X G z_isinstance, PySem.W.mg_none_of X G z_int, PySem.W.mg_none_of X G z_bool, PySem.W.mg_none_of X G z_str, PySem.W.mg_none_of X G z_len, PySem.W.mg_none_of X G z_all, PySem.W.mg_none_of X G z_range, PySem.W.mg_none_of X G z_tuple, PySem.W.mg_none_of X G z_list, PySem.W.mg_none_of X G z_sorted, ⟨_, PySem.W.mg_of X G gc1⟩, ⟨_, PySem.W.mg_of X G gc2⟩, ⟨_, PySem.W.mg_of X G gc3⟩, ⟨_, PySem.W.mg_of X G gc4⟩, ⟨_, PySem.W.mg_of X G gc5⟩⟩
  have FII := fun_mk (st := sIsInt) lII cII kII
  have bII := FII.binds (ps := ["value"]) fun _ _ _ _ _ _ us hl => match us, hl with | [_], _ => rfl
  have mII := PySem.W.mg_of X G aII
  have FIN := fun_mk (st := sIsIn) lIN cIN kIN
  have bIN := FIN.binds (ps := ["value", "least", "most"]) fun _ _ _ _ _ _ us hl => match us, hl with | [_, _, _], _ => rfl
  have mIN := PySem.W.mg_of X G aIN
  have FIW : FunD K "is_word" "is_word" (defArgs sIsWord) (defBody sIsWord) (defScope sIsWord) [.int 200] [] fIW _ := ⟨⟨_, _, _, _, _, _, _, _, _, _, rfl, lIW, cIW, .inr ⟨List.cons_ne_nil _ _, TW, _, [.int 200 tkT], nT, rfl, lT, rfl, .cons ⟨_, rfl⟩ .nil⟩, .inl rfl⟩, kIW⟩
  obtain ⟨dsW, vW, bIW⟩ := FIW.binds1 (ps := ["value", "most"]) 1 0 (List.cons_ne_nil _ _) rfl fun T kV doc pm an cdv ct us its hu hi => match us, hu with | [u], _ => match its, hi with | [t], _ => ⟨_, rfl, rfl⟩
  have mIW := PySem.W.mg_of X G aIW
  have FNW := fun_mk (st := sNeedWord) lNW cNW kNW
  have bNW := FNW.binds (ps := ["value"]) fun _ _ _ _ _ _ us hl => match us, hl with | [_], _ => rfl
  have mNW := PySem.W.mg_of X G aNW
  have FNS := fun_mk (st := sNeedSize) lNS cNS kNS
  have bNS := FNS.binds (ps := ["value"]) fun _ _ _ _ _ _ us hl => match us, hl with | [_], _ => rfl
  have mNS := PySem.W.mg_of X G aNS
  have FND := fun_mk (st := sNeedDepth) lND cND kND
  have bND := FND.binds (ps := ["value"]) fun _ _ _ _ _ _ us hl => match us, hl with | [_], _ => rfl
  have mND := PySem.W.mg_of X G aND
  have FTO := fun_mk (st := sTableOf) lTO cTO kTO
  have bTO := FTO.binds (ps := ["word", "depth"]) fun _ _ _ _ _ _ us hl => match us, hl with | [_, _], _ => rfl
  have mTO := PySem.W.mg_of X G aTO
  have FPT := fun_mk (st := sPartTable) lPT cPT kPT
  have bPT := FPT.binds (ps := ["word", "depth"]) fun _ _ _ _ _ _ us hl => match us, hl with | [_, _], _ => rfl
  have mPT := PySem.W.mg_of X G aPT
  have FAA := fun_mk (st := sAreAlike) lAA cAA kAA
  have bAA := FAA.binds (ps := ["one", "other", "depth"]) fun _ _ _ _ _ _ us hl => match us, hl with | [_, _, _], _ => rfl
  have mAA := PySem.W.mg_of X G aAA
  have FKI := fun_mk (st := sKinds) lKI cKI kKI
  have bKI := FKI.binds (ps := ["size", "length", "depth"]) fun _ _ _ _ _ _ us hl => match us, hl with | [_, _, _], _ => rfl
  have mKI := PySem.W.mg_of X G aKI
  have FLT := fun_mk (st := sTaken) lLT cLT kLT
  have bLT := FLT.binds (ps := ["_law_row", "_law_many"]) fun _ _ _ _ _ _ us hl => match us, hl with | [_, _], _ => rfl
  have mLT := PySem.W.mg_of X G aLT
  have FLA := fun_mk (st := sAlikeL) lLA cLA kLA
  have bLA := FLA.binds (ps := ["_law_found", "_law_due"]) fun _ _ _ _ _ _ us hl => match us, hl with | [_, _], _ => rfl
  have mLA := PySem.W.mg_of X G aLA
  have FLW := fun_mk (st := sWord) lLW cLW kLW
  have bLW := FLW.binds (ps := ["_law_row", "_law_size", "_law_least", "_law_most"]) fun _ _ _ _ _ _ us hl => match us, hl with | [_, _, _, _], _ => rfl
  have mLW := PySem.W.mg_of X G aLW
  have FLL := fun_mk (st := sAll) lLL cLL kLL
  have bLL := FLL.binds (ps := ["_law_size", "_law_length"]) fun _ _ _ _ _ _ us hl => match us, hl with | [_, _], _ => rfl
  have mLL := PySem.W.mg_of X G aLL
  have FLM := fun_mk (st := sLaw) lLM cLM kLM
  have mLM := PySem.W.mg_of X G aLM
  refine ⟨PySem.W.fnOf "law" "law" (defArgs sLaw) (defBody sLaw) (defScope sLaw) .none kVLM dcLM pmLM anLM cdLM ctLM, fun s v => .of_eq rfl, fun base _ _ => ?_⟩
  have gII := ok_is_int (P := l.prog) (w := w) (mg := mg) (base := base) FII T
  have gIN := ok_is_in FIN gII mII kII bII
  have gIW := ok_is_word (P := l.prog) (w := w) (mg := mg) (base := base) FIW T
  have gNW := ok_need_word FNW gIW mIW kIW vW bIW
  have gNS := ok_need_size FNS T gIN mIN kIN bIN
  have gND := ok_need_depth FND T gIN mIN kIN bIN
  have gTO := ok_table (P := l.prog) (w := w) (mg := mg) (base := base) FTO T
  have gPT := ok_part FPT gNW mNW kNW bNW gND mND kND bND gTO mTO kTO bTO
  have gAA := ok_alike FAA gNW mNW kNW bNW gND mND kND bND gTO mTO kTO bTO
  have gKI := ok_kinds FKI T gNS mNS kNS bNS gIN mIN kIN bIN gND mND kND bND gTO mTO kTO bTO
  have gLT := ok_taken (P := l.prog) (w := w) (mg := mg) (base := base) FLT T
  have gLA := ok_alL (P := l.prog) (w := w) (mg := mg) (base := base) FLA T mLA kLA bLA
  have gLW := ok_word FLW T gLT mLT kLT bLT
  have gLL := ok_all (P := l.prog) (w := w) (mg := mg) (base := base) FLL T
  exact ok_law FLM T gLT mLT kLT bLT gLL mLL kLL bLL gPT mPT kPT bPT gKI mKI kKI bKI gLA mLA kLA bLA gLW mLW kLW bLW gAA mAA kAA bAA
end Av
open PySem PySem.W PyProof.Rows
set_option maxRecDepth 100000 in
set_option maxHeartbeats 0 in
theorem PySem.Challenge.cw_avoidwords_k22_whole_kinds_holds : PySem.Challenge.rw_avoidwords_k22_whole_kinds.Holds := by
  w_on; o_law; k_head; (case hw => w_witness2)
  k_fill
  refine L2.walk_of (l := PySem.Challenge.rw_avoidwords_k22_whole_kinds) (n := 63) (k := 5) (x := "_law_script") (CX := fun _ => L2.CX0) (sp := fun w => Av.spLaw _) rfl (by decide) rfl ⟨rfl, by decide, by decide⟩ (fun w h Y => PySem.W.kIn_of Y) ?F (fun _ _ a ns hl _ hS => ⟨a, ns, rfl, hS, hl, fun _ => rfl⟩) (fun _ _ _ _ _ h => h)
  case F =>
    intro w mg fa h KX G hmg
    refine' Av.all_mk KX G hmg ?aII ?lII ?cII ?kII ?aIN ?lIN ?cIN ?kIN ?aIW ?lIW ?cIW ?kIW ?aNW ?lNW ?cNW ?kNW ?aNS ?lNS ?cNS ?kNS ?aND ?lND ?cND ?kND ?aTO ?lTO ?cTO ?kTO ?aPT ?lPT ?cPT ?kPT ?aAA ?lAA ?cAA ?kAA ?aKI ?lKI ?cKI ?kKI ?aLT ?lLT ?cLT ?kLT ?aLA ?lLA ?cLA ?kLA ?aLW ?lLW ?cLW ?kLW ?aLL ?lLL ?cLL ?kLL ?aLM ?lLM ?cLM ?kLM ?lT ?gc1 ?gc2 ?gc3 ?gc4 ?gc5 ?z_isinstance ?z_int ?z_bool ?z_str ?z_len ?z_all ?z_range ?z_tuple ?z_list ?z_sorted
    (case aII => k_is); (case lII => k_is); (case cII => k_is); (case kII => k_is); (case aIN => k_is); (case lIN => k_is); (case cIN => k_is); (case kIN => k_is)
    (case aIW => k_is); (case lIW => k_is); (case cIW => k_is); (case kIW => k_is); (case aNW => k_is); (case lNW => k_is); (case cNW => k_is); (case kNW => k_is)
    (case aNS => k_is); (case lNS => k_is); (case cNS => k_is); (case kNS => k_is); (case aND => k_is); (case lND => k_is); (case cND => k_is); (case kND => k_is)
    (case aTO => k_is); (case lTO => k_is); (case cTO => k_is); (case kTO => k_is); (case aPT => k_is); (case lPT => k_is); (case cPT => k_is); (case kPT => k_is)
    (case aAA => k_is); (case lAA => k_is); (case cAA => k_is); (case kAA => k_is); (case aKI => k_is); (case lKI => k_is); (case cKI => k_is); (case kKI => k_is)
    (case aLT => k_is); (case lLT => k_is); (case cLT => k_is); (case kLT => k_is); (case aLA => k_is); (case lLA => k_is); (case cLA => k_is); (case kLA => k_is)
    (case aLW => k_is); (case lLW => k_is); (case cLW => k_is); (case kLW => k_is); (case aLL => k_is); (case lLL => k_is); (case cLL => k_is); (case kLL => k_is)
    (case aLM => k_is); (case lLM => k_is); (case cLM => k_is); (case kLM => k_is); (case lT => k_is); (case gc1 => k_is); (case gc2 => k_is); (case gc3 => k_is)
    (case gc4 => k_is); (case gc5 => k_is); (case z_isinstance => k_is); (case z_int => k_is); (case z_bool => k_is); (case z_str => k_is); (case z_len => k_is); (case z_all => k_is)
    (case z_range => k_is); (case z_tuple => k_is); (case z_list => k_is); (case z_sorted => k_is)
