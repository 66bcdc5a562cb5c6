import PyProof.Rows.All
import Wide.All
import OpenK.AllK
import Wide.FinOn
import HandS.ForMost
import HandS.SortKw
import HandS.Strs
import HandS.SetFor
import KE.SortData
import KE.DataMinMax
import HandS.Evl
import HandS.Style
import HandS.Wide
import HandS.IsInst
import HandS.Conv
import HandS.Zip
import PyProof.StrLaws
import PySem.Challenge.RW_benchworth_k40_whole_rows_are_the_most
set_option Elab.async false
set_option linter.all false
set_option maxRecDepth 100000
set_option maxHeartbeats 8000008
/-! Plain mathematics of books, choices, loads, papers, claims: no program in sight. -/
namespace BW
abbrev Sp3 := Int × Int × Int
abbrev Bk := List Sp3
abbrev Paper := List (Int × Int)
def stt (bk : Bk) (i : Nat) : Sp3 := bk.getD i (0, 0, 0)
def over (s : Sp3) (m : Int) : Bool := decide (s.1 ≤ m) && decide (m < s.2.1)
def load (bk : Bk) (c : List Nat) (m : Int) : Nat := (c.filter fun i => over (stt bk i) m).length
def worth (bk : Bk) (c : List Nat) : Int := (c.map fun i => (stt bk i).2.2).sum
def Rising (n : Nat) (c : List Nat) : Prop := c.Pairwise (· < ·) ∧ ∀ i ∈ c, i < n
def crowd (bk : Bk) (c : List Nat) : Nat := (c.map fun i => load bk c (stt bk i).1).foldl max 0
def toll (s : Sp3) (p : Paper) : Int := ((p.filter fun q => over s q.1).map (·.2)).sum
def rest (s : Sp3) (p : Paper) : Int := if s.2.2 - toll s p > 0 then s.2.2 - toll s p else 0
def total (p : Paper) : Int := (p.map (·.2)).sum
def claim (bk : Bk) (k : Int) (p : Paper) : Int := k * total p + (bk.map fun s => rest s p).sum

theorem load_cons (bk : Bk) (i : Nat) (c : List Nat) (m : Int) : load bk (i :: c) m = (if over (stt bk i) m then 1 else 0) + load bk c m := by
  unfold load
  rw [List.filter_cons]
  split
  · simp; omega
  · simp
theorem toll_cons (s : Sp3) (q : Int × Int) (p : Paper) : toll s (q :: p) = (if over s q.1 then q.2 else 0) + toll s p := by
  unfold toll
  rw [List.filter_cons]
  split
  · simp
  · simp
theorem foldl_max : ∀ (l : List Nat) (a : Nat), a ≤ l.foldl max a ∧ (∀ x ∈ l, x ≤ l.foldl max a) ∧ (l.foldl max a = a ∨ l.foldl max a ∈ l)
  | [], a => ⟨Nat.le_refl _, by simp, .inl rfl⟩
  | x :: l, a => by
    obtain ⟨h1, h2, h3⟩ := foldl_max l (max a x)
    rw [List.foldl_cons]
    refine ⟨by omega, ?_, ?_⟩
    · intro y hy
      rcases List.mem_cons.mp hy with rfl | hy
      · omega
      · exact h2 y hy
    · rcases h3 with h3 | h3
      · rw [h3]
        rcases Nat.le_total a x with h | h
        · right; rw [Nat.max_eq_right h]; exact List.mem_cons_self
        · left; exact Nat.max_eq_left h
      · exact .inr (List.mem_cons_of_mem _ h3)
theorem crowd_le {bk : Bk} {c : List Nat} {k : Nat} : crowd bk c ≤ k ↔ ∀ i ∈ c, load bk c (stt bk i).1 ≤ k := by
  unfold crowd
  obtain ⟨h1, h2, h3⟩ := foldl_max (c.map fun i => load bk c (stt bk i).1) 0
  constructor
  · intro h i hi
    exact Nat.le_trans (h2 _ (List.mem_map.mpr ⟨i, hi, rfl⟩)) h
  · intro h
    rcases h3 with h3 | h3
    · omega
    · obtain ⟨i, hi, e⟩ := List.mem_map.mp h3
      rw [← e]
      exact h i hi
theorem exists_max {α : Type} (f : α → Int) : ∀ (l : List α), l ≠ [] → ∃ x ∈ l, ∀ y ∈ l, f y ≤ f x
  | [], h => absurd rfl h
  | [x], _ => ⟨x, by simp, by simp⟩
  | x :: y :: l, _ => by
    obtain ⟨z, hz, h⟩ := exists_max f (y :: l) (by simp)
    rcases Int.le_total (f x) (f z) with hx | hx
    · refine ⟨z, List.mem_cons_of_mem _ hz, fun a ha => ?_⟩
      rcases List.mem_cons.mp ha with rfl | ha
      · exact hx
      · exact h a ha
    · refine ⟨x, List.mem_cons_self, fun a ha => ?_⟩
      rcases List.mem_cons.mp ha with rfl | ha
      · exact Int.le_refl _
      · exact Int.le_trans (h a ha) hx
theorem filter_len_mono {α : Type} {p q : α → Bool} : ∀ (l : List α), (∀ x ∈ l, p x = true → q x = true) → (l.filter p).length ≤ (l.filter q).length
  | [], _ => by simp
  | x :: l, h => by
    have ih := filter_len_mono l fun y hy => h y (List.mem_cons_of_mem _ hy)
    rw [List.filter_cons, List.filter_cons]
    by_cases hp : p x = true
    · rw [if_pos hp, if_pos (h x List.mem_cons_self hp)]
      simp; omega
    · rw [if_neg hp]
      split
      · simp; omega
      · exact ih
theorem load_le_crowd (bk : Bk) (c : List Nat) (m : Int) : load bk c m ≤ crowd bk c := by
  by_cases h0 : (c.filter fun i => over (stt bk i) m) = []
  · unfold load
    rw [h0]
    exact Nat.zero_le _
  · obtain ⟨i, hi, hmax⟩ := exists_max (fun i => (stt bk i).1) _ h0
    obtain ⟨hic, him⟩ := List.mem_filter.mp hi
    refine Nat.le_trans ?_ (crowd_le.mp (Nat.le_refl _) i hic)
    refine filter_len_mono c fun j hj hov => ?_
    have hb := hmax j (List.mem_filter.mpr ⟨hj, hov⟩)
    unfold over at *
    simp only [Bool.and_eq_true, decide_eq_true_eq] at *
    omega
theorem crowd_all {bk : Bk} {c : List Nat} {k : Nat} : crowd bk c ≤ k ↔ ∀ m, load bk c m ≤ k :=
  ⟨fun h m => Nat.le_trans (load_le_crowd bk c m) h, fun h => crowd_le.mpr fun i _ => h _⟩
theorem crowd_at {bk : Bk} {c : List Nat} : crowd bk c = 0 ∨ ∃ i ∈ c, crowd bk c = load bk c (stt bk i).1 := by
  unfold crowd
  rcases (foldl_max (c.map fun i => load bk c (stt bk i).1) 0).2.2 with h | h
  · exact .inl h
  · obtain ⟨i, hi, e⟩ := List.mem_map.mp h
    exact .inr ⟨i, hi, e.symm⟩
/-! ### sums -/
theorem sum_le {α : Type} {f g : α → Int} : ∀ (l : List α), (∀ x ∈ l, f x ≤ g x) → (l.map f).sum ≤ (l.map g).sum
  | [], _ => by simp
  | x :: l, h => by
    have ih := sum_le l fun y hy => h y (List.mem_cons_of_mem _ hy)
    have hx := h x List.mem_cons_self
    simp only [List.map_cons, List.sum_cons]
    omega
theorem sum_add {α : Type} (f g : α → Int) : ∀ (l : List α), (l.map fun x => f x + g x).sum = (l.map f).sum + (l.map g).sum
  | [] => by simp
  | x :: l => by
    have ih := sum_add f g l
    simp only [List.map_cons, List.sum_cons, ih]
    omega
theorem sum_sublist {α : Type} {f : α → Int} (hf : ∀ x, 0 ≤ f x) {l m : List α} (h : l.Sublist m) : (l.map f).sum ≤ (m.map f).sum := by
  induction h with
  | slnil => simp
  | cons a _ ih => simp only [List.map_cons, List.sum_cons]; have := hf a; omega
  | cons_cons a _ ih => simp only [List.map_cons, List.sum_cons]; omega
theorem rising_sub : ∀ (n : Nat) (c : List Nat), Rising n c → c.Sublist (List.range n)
  | 0, [], _ => by simp
  | 0, i :: c, h => absurd (h.2 i List.mem_cons_self) (Nat.not_lt_zero _)
  | n + 1, c, h => by
    rw [List.range_succ]
    rcases List.eq_nil_or_concat c with rfl | ⟨d, x, rfl⟩
    · exact List.nil_sublist _
    · rw [List.concat_eq_append] at h ⊢
      have hp := List.pairwise_append.mp h.1
      have hx := h.2 x (by simp)
      have hd : ∀ y ∈ d, y < x := fun y hy => hp.2.2 y hy x (by simp)
      by_cases e : x = n
      · subst e
        exact List.Sublist.append (rising_sub x d ⟨hp.1, hd⟩) (List.Sublist.refl _)
      · refine List.Sublist.trans (rising_sub n (d ++ [x]) ⟨h.1, fun y hy => ?_⟩) (List.sublist_append_left _ _)
        rcases List.mem_append.mp hy with hy | hy
        · have := hd y hy; omega
        · rw [List.mem_singleton.mp hy]; omega
theorem map_range {α β : Type} (d : α) (f : α → β) (l : List α) : (List.range l.length).map (fun i => f (l.getD i d)) = l.map f := by
  apply List.ext_getElem?
  intro i
  rw [List.getElem?_map, List.getElem?_map]
  by_cases h : i < l.length
  · rw [List.getElem?_range h, List.getElem?_eq_getElem h]
    simp [List.getD, List.getElem?_eq_getElem h]
  · rw [List.getElem?_eq_none (by simp; omega), List.getElem?_eq_none (by omega)]
    rfl
theorem rest_nn (s : Sp3) (p : Paper) : 0 ≤ rest s p := by
  unfold rest
  split <;> omega
theorem sum_toll (bk : Bk) : ∀ (c : List Nat) (p : Paper), (c.map fun i => toll (stt bk i) p).sum = (p.map fun q => q.2 * (load bk c q.1 : Int)).sum
  | c, [] => by
    have : (fun i => toll (stt bk i) []) = fun _ => 0 := by funext i; rfl
    rw [this]
    induction c with
    | nil => rfl
    | cons x c ih => simpa using ih
  | c, q :: p => by
    have ih := sum_toll bk c p
    have e : (fun i => toll (stt bk i) (q :: p)) = fun i => (if over (stt bk i) q.1 then q.2 else 0) + toll (stt bk i) p := by
      funext i; exact toll_cons _ _ _
    rw [e, sum_add, ih, List.map_cons, List.sum_cons]
    congr 1
    clear ih
    induction c with
    | nil => simp [load]
    | cons x c ihc =>
      rw [List.map_cons, List.sum_cons, ihc, load_cons]
      split
      · simp [Int.mul_add]
      · simp
theorem sum_mul {α : Type} (f : α → Int) (k : Int) : ∀ (l : List α), (l.map fun x => f x * k).sum = k * (l.map f).sum
  | [] => by simp
  | x :: l => by
    rw [List.map_cons, List.sum_cons, sum_mul f k l, List.map_cons, List.sum_cons, Int.mul_add, Int.mul_comm]
/-- no choice is worth more than any paper claims -/
theorem weak {bk : Bk} {c : List Nat} {k : Nat} {p : Paper} (hc : Rising bk.length c) (hl : ∀ m, load bk c m ≤ k) (hp : ∀ q ∈ p, 0 ≤ q.2) : worth bk c ≤ claim bk k p := by
  have h1 : worth bk c ≤ (c.map fun i => toll (stt bk i) p + rest (stt bk i) p).sum := by
    refine sum_le c fun i _ => ?_
    unfold rest
    split <;> omega
  rw [sum_add, sum_toll] at h1
  have h2 : (p.map fun q => q.2 * (load bk c q.1 : Int)).sum ≤ (p.map fun q => q.2 * (k : Int)).sum := by
    refine sum_le p fun q hq => ?_
    have := hl q.1
    exact Int.mul_le_mul_of_nonneg_left (by omega) (hp q hq)
  rw [sum_mul (fun q : Int × Int => q.2) (k : Int) p] at h2
  have h3 : (c.map fun i => rest (stt bk i) p).sum ≤ ((List.range bk.length).map fun i => rest (stt bk i) p).sum := sum_sublist (fun _ => rest_nn _ _) (rising_sub _ _ hc)
  have h4 : ((List.range bk.length).map fun i => rest (stt bk i) p) = bk.map fun s => rest s p := map_range (0, 0, 0) (fun s => rest s p) bk
  rw [h4] at h3
  have h5 : (p.map fun q : Int × Int => q.2) = p.map (·.2) := rfl
  unfold claim total
  omega
/-! ### the loads as the program goes through them -/
def loadsL (f : Int → Nat) : Int → List Int → List (Int × Int)
  | _, [] => []
  | last, m :: ms => (if (f m : Int) ≠ last then [(m, (f m : Int))] else []) ++ loadsL f (f m) ms
def greater (g : Int) (p : Int × Int) : Int := if p.2 > g then p.2 else g
theorem greatest_loads (f : Int → Nat) : ∀ (ms : List Int) (last g : Int), last ≤ g →
    g ≤ (loadsL f last ms).foldl greater g ∧ (∀ m ∈ ms, (f m : Int) ≤ (loadsL f last ms).foldl greater g) ∧ ((loadsL f last ms).foldl greater g = g ∨ ∃ m ∈ ms, (loadsL f last ms).foldl greater g = (f m : Int))
  | [], last, g, _ => ⟨Int.le_refl _, by simp, .inl rfl⟩
  | m :: ms, last, g, hg => by
    by_cases h : (f m : Int) ≠ last
    · have e : loadsL f last (m :: ms) = (m, (f m : Int)) :: loadsL f (f m) ms := by
        rw [loadsL, if_pos h]; rfl
      rw [e, List.foldl_cons]
      by_cases h2 : (f m : Int) > g
      · have e2 : greater g (m, (f m : Int)) = f m := if_pos h2
        rw [e2]
        obtain ⟨a, b, c⟩ := greatest_loads f ms (f m) (f m) (Int.le_refl _)
        refine ⟨by omega, fun x hx => ?_, ?_⟩
        · rcases List.mem_cons.mp hx with rfl | hx
          · exact a
          · exact b x hx
        · rcases c with c | ⟨x, hx, c⟩
          · exact .inr ⟨m, List.mem_cons_self, c⟩
          · exact .inr ⟨x, List.mem_cons_of_mem _ hx, c⟩
      · have e2 : greater g (m, (f m : Int)) = g := if_neg h2
        rw [e2]
        obtain ⟨a, b, c⟩ := greatest_loads f ms (f m) g (by omega)
        refine ⟨a, fun x hx => ?_, ?_⟩
        · rcases List.mem_cons.mp hx with rfl | hx
          · omega
          · exact b x hx
        · rcases c with c | ⟨x, hx, c⟩
          · exact .inl c
          · exact .inr ⟨x, List.mem_cons_of_mem _ hx, c⟩
    · have e : loadsL f last (m :: ms) = loadsL f (f m) ms := by
        rw [loadsL, if_neg h]; rfl
      rw [e]
      have h' : (f m : Int) = last := by omega
      obtain ⟨a, b, c⟩ := greatest_loads f ms (f m) g (by omega)
      refine ⟨a, fun x hx => ?_, ?_⟩
      · rcases List.mem_cons.mp hx with rfl | hx
        · omega
        · exact b x hx
      · rcases c with c | ⟨x, hx, c⟩
        · exact .inl c
        · exact .inr ⟨x, List.mem_cons_of_mem _ hx, c⟩
/-- the greatest load met at the begins and ends is the crowd -/
theorem crowd_loads {bk : Bk} {c : List Nat} {ms : List Int} (hb : ∀ i ∈ c, (stt bk i).1 ∈ ms) : (loadsL (load bk c) 0 ms).foldl greater 0 = (crowd bk c : Int) := by
  obtain ⟨a, b, d⟩ := greatest_loads (load bk c) ms 0 0 (Int.le_refl _)
  have up : (loadsL (load bk c) 0 ms).foldl greater 0 ≤ (crowd bk c : Int) := by
    rcases d with d | ⟨m, _, d⟩
    · omega
    · have := load_le_crowd bk c m; omega
  rcases @crowd_at bk c with h | ⟨i, hi, h⟩
  · omega
  · have := b _ (hb i hi); omega
end BW
/-! Roads of most gain: relaxing arcs until nothing changes. Plain mathematics. -/
namespace BW
/-- an arc: from, to, gain, kind (0 idle, 1 unidle, 2 take, 3 leave), number -/
structure Arc where
  u : Nat
  v : Nat
  g : Int
  t : Nat
  n : Nat
deriving DecidableEq
abbrev Gs := List (Option Int)
abbrev Ls := List (Option Arc)
def gAt (gs : Gs) (v : Nat) : Option Int := gs.getD v none
def lAt (ls : Ls) (v : Nat) : Option Arc := ls.getD v none
structure Rx where
  gs : Gs
  ls : Ls
  ch : Bool
def relax (s : Rx) (a : Arc) : Rx :=
  match gAt s.gs a.u with
  | none => s
  | some g => match gAt s.gs a.v with
    | none => ⟨s.gs.set a.v (some (g + a.g)), s.ls.set a.v (some a), true⟩
    | some h => if g + a.g > h then ⟨s.gs.set a.v (some (g + a.g)), s.ls.set a.v (some a), true⟩ else s
def pass (as : List Arc) (gs : Gs) (ls : Ls) : Rx := as.foldl relax ⟨gs, ls, false⟩
/-- n passes that change something, then one that changes nothing -/
inductive Runs (as : List Arc) : Nat → Gs → Ls → Gs → Ls → Prop
  | stop {gs : Gs} {ls : Ls} : (pass as gs ls).ch = false → Runs as 0 gs ls (pass as gs ls).gs (pass as gs ls).ls
  | more {n : Nat} {gs : Gs} {ls : Ls} {gs' : Gs} {ls' : Ls} : (pass as gs ls).ch = true → Runs as n (pass as gs ls).gs (pass as gs ls).ls gs' ls' → Runs as (n + 1) gs ls gs' ls'
/-- following the last arcs from v one comes to 0 in n steps -/
inductive Reach (ls : Ls) : Nat → Nat → Prop
  | zero : Reach ls 0 0
  | step {v n : Nat} {a : Arc} : v ≠ 0 → lAt ls v = some a → Reach ls a.u n → Reach ls v (n + 1)
theorem Reach.inj {ls : Ls} : ∀ {n m v : Nat}, Reach ls v n → Reach ls v m → n = m
  | _, _, _, .zero, .zero => rfl
  | _, _, _, .zero, .step h _ _ => absurd rfl h
  | _, _, _, .step h _ _, .zero => absurd rfl h
  | _, _, _, .step _ e r, .step _ e' r' => by
    rw [e] at e'
    cases e'
    rw [Reach.inj r r']
def Feas (as : List Arc) (p : Nat → Int) : Prop := ∀ a ∈ as, p a.u + a.g ≤ p a.v
/-- the arcs lie between the nodes 0 .. N -/
def Within (N : Nat) (as : List Arc) : Prop := ∀ a ∈ as, a.u ≤ N ∧ a.v ≤ N ∧ a.u ≠ a.v
structure Ok (N : Nat) (as : List Arc) (gs : Gs) (ls : Ls) : Prop where
  lg : gs.length = N + 1
  ll : ls.length = N + 1
  g0 : gAt gs 0 = some 0
  le : ∀ v g, gAt gs v = some g → ∀ p, Feas as p → p 0 = 0 → g ≤ p v
  pr : ∀ v g, gAt gs v = some g → v ≠ 0 → ∃ a gu, a ∈ as ∧ lAt ls v = some a ∧ a.v = v ∧ gAt gs a.u = some gu ∧ g ≤ gu + a.g
  rc : ∀ v g, gAt gs v = some g → ∃ n, Reach ls v n
theorem gAt_set {gs : Gs} {v w : Nat} {x : Option Int} (h : v < gs.length) : gAt (gs.set v x) w = if w = v then x else gAt gs w := by
  unfold gAt
  rw [List.getD_eq_getElem?_getD, List.getD_eq_getElem?_getD, List.getElem?_set]
  by_cases e : w = v
  · subst e
    simp [h]
  · rw [if_neg (fun q => e q.symm), if_neg e]
theorem lAt_set {ls : Ls} {v w : Nat} {x : Option Arc} (h : v < ls.length) : lAt (ls.set v x) w = if w = v then x else lAt ls w := by
  unfold lAt
  rw [List.getD_eq_getElem?_getD, List.getD_eq_getElem?_getD, List.getElem?_set]
  by_cases e : w = v
  · subst e
    simp [h]
  · rw [if_neg (fun q => e q.symm), if_neg e]
/-- an update -/
theorem Ok.upd {N : Nat} {as : List Arc} {gs : Gs} {ls : Ls} {a : Arc} {g : Int} {p0 : Nat → Int} (k : Ok N as gs ls) (f0 : Feas as p0) (z0 : p0 0 = 0) (W : Within N as) (ha : a ∈ as) (hu : gAt gs a.u = some g)
    (hv : ∀ h, gAt gs a.v = some h → h < g + a.g) : Ok N as (gs.set a.v (some (g + a.g))) (ls.set a.v (some a)) := by
  obtain ⟨w1, w2, w3⟩ := W a ha
  have hg : a.v < gs.length := by rw [k.lg]; omega
  have hl : a.v < ls.length := by rw [k.ll]; omega
  have n0 : a.v ≠ 0 := fun e => by
    have h1 := hv 0 (by rw [e]; exact k.g0)
    have h2 := k.le _ _ hu p0 f0 z0
    have h3 := f0 a ha
    rw [e, z0] at h3
    omega
  have slack : ∀ x n, Reach ls x n → ∀ gx, gAt gs x = some gx → (∃ m, Reach (ls.set a.v (some a)) x m) ∨ ∃ gv, gAt gs a.v = some gv ∧ gx - p0 x ≤ gv - p0 a.v := by
    intro x n r
    induction r with
    | zero => exact fun _ _ => .inl ⟨0, .zero⟩
    | @step v n b hv0 hb r ih =>
      intro gx hgx
      by_cases e : v = a.v
      · exact .inr ⟨gx, by rw [← e]; exact hgx, by rw [e]; omega⟩
      · obtain ⟨b', gu, hb1, hb2, hb3, hb4, hb5⟩ := k.pr v gx hgx hv0
        rw [hb] at hb2
        cases hb2
        have h3 := f0 b hb1
        rw [hb3] at h3
        rcases ih gu hb4 with ⟨m, hm⟩ | ⟨gv, h1, h2⟩
        · exact .inl ⟨m + 1, .step hv0 (by rw [lAt_set hl, if_neg e]; exact hb) hm⟩
        · exact .inr ⟨gv, h1, by omega⟩
  -- the way to a.u does not pass a.v
  have ru : ∃ m, Reach (ls.set a.v (some a)) a.u m := by
    obtain ⟨n, hn⟩ := k.rc _ _ hu
    rcases slack _ _ hn _ hu with h | ⟨gv, h1, h2⟩
    · exact h
    · have := hv gv h1
      have := f0 a ha
      omega
  have rv : ∃ m, Reach (ls.set a.v (some a)) a.v m := by
    obtain ⟨m, hm⟩ := ru
    exact ⟨m + 1, .step n0 (by rw [lAt_set hl, if_pos rfl]) hm⟩
  have ra : ∀ x n, Reach ls x n → ∃ m, Reach (ls.set a.v (some a)) x m := by
    intro x n r
    induction r with
    | zero => exact ⟨0, .zero⟩
    | @step v n b hv0 hb r ih =>
      by_cases e : v = a.v
      · rw [e]; exact rv
      · obtain ⟨m, hm⟩ := ih
        exact ⟨m + 1, .step hv0 (by rw [lAt_set hl, if_neg e]; exact hb) hm⟩
  refine ⟨by rw [List.length_set]; exact k.lg, by rw [List.length_set]; exact k.ll, ?_, ?_, ?_, ?_⟩
  · rw [gAt_set hg, if_neg (fun q => n0 q.symm)]
    exact k.g0
  · intro v h hh p fp zp
    rw [gAt_set hg] at hh
    by_cases e : v = a.v
    · rw [if_pos e] at hh
      cases hh
      have h1 := k.le _ _ hu p fp zp
      have h2 := fp a ha
      rw [e]
      omega
    · rw [if_neg e] at hh
      exact k.le _ _ hh p fp zp
  · intro v h hh hv0
    rw [gAt_set hg] at hh
    by_cases e : v = a.v
    · rw [if_pos e] at hh
      cases hh
      refine ⟨a, g, ha, by rw [lAt_set hl, if_pos e], e.symm, ?_, Int.le_refl _⟩
      rw [gAt_set hg, if_neg w3]
      exact hu
    · rw [if_neg e] at hh
      obtain ⟨b, gu, h1, h2, h3, h4, h5⟩ := k.pr _ _ hh hv0
      by_cases e2 : b.u = a.v
      · refine ⟨b, g + a.g, h1, by rw [lAt_set hl, if_neg e]; exact h2, h3, by rw [gAt_set hg, if_pos e2], ?_⟩
        have := hv gu (by rw [← e2]; exact h4)
        omega
      · exact ⟨b, gu, h1, by rw [lAt_set hl, if_neg e]; exact h2, h3, by rw [gAt_set hg, if_neg e2]; exact h4, h5⟩
  · intro v h hh
    rw [gAt_set hg] at hh
    by_cases e : v = a.v
    · rw [e]; exact rv
    · rw [if_neg e] at hh
      obtain ⟨n, hn⟩ := k.rc _ _ hh
      exact ra _ _ hn
theorem relax_cases (s : Rx) (a : Arc) : (relax s a = s ∧ ∀ g, gAt s.gs a.u = some g → ∃ h, gAt s.gs a.v = some h ∧ g + a.g ≤ h) ∨
    ∃ g, gAt s.gs a.u = some g ∧ (∀ h, gAt s.gs a.v = some h → h < g + a.g) ∧ relax s a = ⟨s.gs.set a.v (some (g + a.g)), s.ls.set a.v (some a), true⟩ := by
  unfold relax
  cases h1 : gAt s.gs a.u with
  | none => exact .inl ⟨rfl, fun g q => by cases q⟩
  | some g =>
    cases h2 : gAt s.gs a.v with
    | none => exact .inr ⟨g, rfl, (fun h q => by cases q), rfl⟩
    | some h =>
      by_cases e : g + a.g > h
      · exact .inr ⟨g, rfl, (fun h' q => by cases q; exact e), by dsimp only; rw [if_pos e]⟩
      · exact .inl ⟨by dsimp only; rw [if_neg e], fun g' q => by cases q; exact ⟨h, rfl, by omega⟩⟩
/-- how much the gains may still grow: the nodes without one, and the sum of what is left up to a bound -/
def nones (gs : Gs) : Nat := (gs.filter fun o => o.isNone).length
def left (p : Nat → Int) (gs : Gs) : Nat := ((List.range gs.length).map fun v => match gAt gs v with | none => 0 | some g => (p v - g).toNat).sum
theorem nones_set : ∀ (gs : Gs) (v : Nat) (x : Int), v < gs.length → nones (gs.set v (some x)) + (if gAt gs v = none then 1 else 0) = nones gs
  | [], v, x, h => absurd h (Nat.not_lt_zero _)
  | o :: gs, 0, x, _ => by
    cases o <;> simp [nones, gAt]
  | o :: gs, v + 1, x, h => by
    have ih := nones_set gs v x (by simpa using h)
    have e : gAt (o :: gs) (v + 1) = gAt gs v := by simp [gAt]
    rw [e]
    unfold nones at *
    rw [List.set_cons_succ, List.filter_cons, List.filter_cons]
    by_cases ho : o.isNone = true
    · rw [if_pos ho, if_pos ho, List.length_cons, List.length_cons]; omega
    · rw [if_neg ho, if_neg ho]; exact ih
theorem sum_lt {f g : Nat → Nat} : ∀ (n v : Nat), v < n → f v < g v → (∀ w, w < n → f w ≤ g w) → ((List.range n).map f).sum < ((List.range n).map g).sum
  | 0, v, h, _, _ => absurd h (Nat.not_lt_zero _)
  | n + 1, v, h, hv, hw => by
    rw [List.range_succ, List.map_append, List.map_append, List.sum_append, List.sum_append]
    simp only [List.map_cons, List.map_nil, List.sum_cons, List.sum_nil, Nat.add_zero]
    have hle : ∀ m, m ≤ n → ((List.range m).map f).sum ≤ ((List.range m).map g).sum := by
      intro m
      induction m with
      | zero => simp
      | succ m ih =>
        intro hm
        have := ih (by omega)
        have := hw m (by omega)
        rw [List.range_succ, List.map_append, List.map_append, List.sum_append, List.sum_append]
        simp only [List.map_cons, List.map_nil, List.sum_cons, List.sum_nil, Nat.add_zero]
        omega
    by_cases e : v = n
    · subst e
      have := hle v (Nat.le_refl _)
      omega
    · have := sum_lt n v (by omega) hv fun w hw' => hw w (by omega)
      have := hw n (by omega)
      omega
/-- what a pass leaves -/
structure Passed (N : Nat) (as done : List Arc) (p : Nat → Int) (gs : Gs) (s : Rx) : Prop where
  ok : Ok N as s.gs s.ls
  same : s.ch = false → s.gs = gs ∧ ∀ a ∈ done, ∀ g, gAt gs a.u = some g → ∃ h, gAt gs a.v = some h ∧ g + a.g ≤ h
  down : s.ch = true → nones s.gs < nones gs ∨ (nones s.gs = nones gs ∧ left p s.gs < left p gs)
  ndown : nones s.gs < nones gs ∨ (nones s.gs = nones gs ∧ left p s.gs ≤ left p gs)
theorem Passed.turn {N : Nat} {as done : List Arc} {p : Nat → Int} {gs : Gs} {s : Rx} {a : Arc} (h : Passed N as done p gs s) (f0 : Feas as p) (z0 : p 0 = 0) (W : Within N as) (ha : a ∈ as) : Passed N as (done ++ [a]) p gs (relax s a) := by
  rcases relax_cases s a with ⟨e, q⟩ | ⟨g, hu, hv, e⟩
  · rw [e]
    refine ⟨h.ok, fun hc => ⟨(h.same hc).1, fun b hb => ?_⟩, h.down, h.ndown⟩
    rcases List.mem_append.mp hb with hb | hb
    · exact (h.same hc).2 b hb
    · rw [List.mem_singleton.mp hb]
      have e2 := (h.same hc).1
      rw [← e2]
      exact q
  · rw [e]
    have ok2 := h.ok.upd f0 z0 W ha hu hv
    obtain ⟨w1, w2, w3⟩ := W a ha
    have hg : a.v < s.gs.length := by rw [h.ok.lg]; omega
    have d : nones (s.gs.set a.v (some (g + a.g))) < nones s.gs ∨ (nones (s.gs.set a.v (some (g + a.g))) = nones s.gs ∧ left p (s.gs.set a.v (some (g + a.g))) < left p s.gs) := by
      have hn := nones_set s.gs a.v (g + a.g) hg
      cases hav : gAt s.gs a.v with
      | none =>
        rw [hav] at hn
        simp at hn
        omega
      | some x =>
        rw [hav] at hn
        refine .inr ⟨by simpa using hn, ?_⟩
        unfold left
        rw [List.length_set]
        have hx := hv x hav
        have hxp := h.ok.le _ _ hu p f0 z0
        have hap := f0 a ha
        have hgp := h.ok.le _ _ hu p f0 z0
        have t1 := Int.toNat_of_nonneg (show 0 ≤ p a.v - x by omega)
        have t2 := Int.toNat_of_nonneg (show 0 ≤ p a.v - (g + a.g) by omega)
        have t3 : (p a.v - (g + a.g)).toNat < (p a.v - x).toNat := by omega
        refine sum_lt _ a.v hg ?_ fun w _ => ?_
        · rw [gAt_set hg, if_pos rfl, hav]
          exact t3
        · rw [gAt_set hg]
          by_cases ew : w = a.v
          · rw [if_pos ew, ew, hav]
            exact Nat.le_of_lt t3
          · rw [if_neg ew]
            exact Nat.le_refl _
    have d2 : nones (s.gs.set a.v (some (g + a.g))) < nones gs ∨ (nones (s.gs.set a.v (some (g + a.g))) = nones gs ∧ left p (s.gs.set a.v (some (g + a.g))) < left p gs) := by
      have := h.ndown
      omega
    exact ⟨ok2, fun hc => (by cases hc), fun _ => d2, d2.elim .inl fun q => .inr ⟨q.1, Nat.le_of_lt q.2⟩⟩
theorem Passed.start {N : Nat} {as : List Arc} {p : Nat → Int} {gs : Gs} {ls : Ls} (k : Ok N as gs ls) : Passed N as [] p gs ⟨gs, ls, false⟩ :=
  ⟨k, fun _ => ⟨rfl, fun a h => (by cases h)⟩, fun h => (by cases h), .inr ⟨rfl, Nat.le_refl _⟩⟩
theorem Passed.go {N : Nat} {as : List Arc} {p : Nat → Int} {gs : Gs} (f0 : Feas as p) (z0 : p 0 = 0) (W : Within N as) : ∀ (l done : List Arc) (s : Rx), (∀ a ∈ l, a ∈ as) → Passed N as done p gs s → Passed N as (done ++ l) p gs (l.foldl relax s)
  | [], done, s, _, h => by simpa using h
  | a :: l, done, s, hl, h => by
    have := Passed.go f0 z0 W l (done ++ [a]) (relax s a) (fun b hb => hl b (List.mem_cons_of_mem _ hb)) (h.turn f0 z0 W (hl a List.mem_cons_self))
    rw [List.foldl_cons]
    simpa using this
theorem pass_ok {N : Nat} {as : List Arc} {p : Nat → Int} {gs : Gs} {ls : Ls} (f0 : Feas as p) (z0 : p 0 = 0) (W : Within N as) (k : Ok N as gs ls) : Passed N as as p gs (pass as gs ls) := by
  have := Passed.go (gs := gs) f0 z0 W as [] ⟨gs, ls, false⟩ (fun _ h => h) (Passed.start k)
  rw [List.nil_append] at this
  exact this
/-- the passes come to an end -/
theorem runs_end {N : Nat} {as : List Arc} {p : Nat → Int} (f0 : Feas as p) (z0 : p 0 = 0) (W : Within N as) : ∀ (a b : Nat) (gs : Gs) (ls : Ls), nones gs ≤ a → left p gs ≤ b → Ok N as gs ls → ∃ n gs' ls', Runs as n gs ls gs' ls' := by
  intro a
  induction a using Nat.strongRecOn with
  | _ a iha =>
    intro b
    induction b using Nat.strongRecOn with
    | _ b ihb =>
      intro gs ls ha hb k
      have P := pass_ok f0 z0 W k
      cases hc : (pass as gs ls).ch with
      | false => exact ⟨0, _, _, .stop hc⟩
      | true =>
        have d := P.down hc
        by_cases h : nones (pass as gs ls).gs < a
        · obtain ⟨n, g', l', r⟩ := iha _ h _ _ _ (Nat.le_refl _) (Nat.le_refl _) P.ok
          exact ⟨n + 1, g', l', .more hc r⟩
        · obtain ⟨n, g', l', r⟩ := ihb (left p (pass as gs ls).gs) (by omega) _ _ (by omega) (Nat.le_refl _) P.ok
          exact ⟨n + 1, g', l', .more hc r⟩
/-- what is told at the end -/
structure Good (N : Nat) (as : List Arc) (gs : Gs) (ls : Ls) : Prop where
  ok : Ok N as gs ls
  fix : ∀ a ∈ as, ∀ g, gAt gs a.u = some g → ∃ h, gAt gs a.v = some h ∧ g + a.g ≤ h
theorem Runs.good {N : Nat} {as : List Arc} {p : Nat → Int} (f0 : Feas as p) (z0 : p 0 = 0) (W : Within N as) : ∀ {n : Nat} {gs gs' : Gs} {ls ls' : Ls}, Ok N as gs ls → Runs as n gs ls gs' ls' → Good N as gs' ls'
  | _, _, _, _, _, k, .stop hc => by
    have P := pass_ok f0 z0 W k
    obtain ⟨e, q⟩ := P.same hc
    refine ⟨P.ok, ?_⟩
    rw [e]
    exact q
  | _, _, _, _, _, k, .more _ r => Runs.good f0 z0 W (pass_ok f0 z0 W k).ok r
def gs0 (N : Nat) : Gs := (List.replicate (N + 1) none).set 0 (some 0)
def ls0 (N : Nat) : Ls := List.replicate (N + 1) none
theorem gAt_gs0 (N v : Nat) : gAt (gs0 N) v = if v = 0 then some 0 else none := by
  unfold gs0
  rw [gAt_set (by simp)]
  split
  · rfl
  · unfold gAt
    rw [List.getD_eq_getElem?_getD, List.getElem?_replicate]
    split <;> rfl
theorem ok_start (N : Nat) (as : List Arc) : Ok N as (gs0 N) (ls0 N) := by
  refine ⟨by simp [gs0], by simp [ls0], by rw [gAt_gs0, if_pos rfl], ?_, ?_, ?_⟩
  · intro v g h p _ z
    rw [gAt_gs0] at h
    split at h
    · cases h; rename_i e; rw [e, z]; exact Int.le_refl _
    · cases h
  · intro v g h hv
    rw [gAt_gs0, if_neg hv] at h
    cases h
  · intro v g h
    rw [gAt_gs0] at h
    split at h
    · rename_i e; rw [e]; exact ⟨0, .zero⟩
    · cases h
/-! ### the gains, where a line of idle arcs leads from 0 to N -/
def Idle (N : Nat) (as : List Arc) : Prop := ∀ k, k < N → ∃ a ∈ as, a.u = k ∧ a.v = k + 1 ∧ a.g = 0
def pot (gs : Gs) (v : Nat) : Int := (gAt gs v).getD 0
theorem Good.all {N : Nat} {as : List Arc} {gs : Gs} {ls : Ls} (G : Good N as gs ls) (I : Idle N as) : ∀ v, v ≤ N → gAt gs v = some (pot gs v)
  | 0, _ => by unfold pot; rw [G.ok.g0]; rfl
  | v + 1, h => by
    obtain ⟨a, ha, hu, hv, _⟩ := I v (by omega)
    obtain ⟨x, hx, _⟩ := G.fix a ha _ (by rw [hu]; exact Good.all G I v (by omega))
    rw [hv] at hx
    unfold pot
    rw [hx]
    rfl
theorem Good.feas {N : Nat} {as : List Arc} {gs : Gs} {ls : Ls} (G : Good N as gs ls) (I : Idle N as) (W : Within N as) : Feas as (pot gs) := fun a ha => by
  obtain ⟨h1, h2, _⟩ := W a ha
  obtain ⟨x, hx, hle⟩ := G.fix a ha _ (G.all I _ h1)
  rw [G.all I _ h2] at hx
  cases hx
  exact hle
theorem Good.zero {N : Nat} {as : List Arc} {gs : Gs} {ls : Ls} (G : Good N as gs ls) : pot gs 0 = 0 := by
  unfold pot; rw [G.ok.g0]; rfl
theorem Good.least {N : Nat} {as : List Arc} {gs : Gs} {ls : Ls} (G : Good N as gs ls) (I : Idle N as) {p : Nat → Int} (f : Feas as p) (z : p 0 = 0) : ∀ v, v ≤ N → pot gs v ≤ p v := fun v h =>
  G.ok.le v _ (G.all I v h) p f z
theorem Good.last {N : Nat} {as : List Arc} {gs : Gs} {ls : Ls} (G : Good N as gs ls) (I : Idle N as) (W : Within N as) {v : Nat} (h : v ≤ N) (h0 : v ≠ 0) : ∃ a, a ∈ as ∧ lAt ls v = some a ∧ a.v = v ∧ pot gs v = pot gs a.u + a.g := by
  obtain ⟨a, gu, h1, h2, h3, h4, h5⟩ := G.ok.pr v _ (G.all I v h) h0
  refine ⟨a, h1, h2, h3, ?_⟩
  have h6 := G.feas I W a h1
  have h7 : pot gs a.u = gu := by unfold pot; rw [h4]; rfl
  rw [h3] at h6
  omega
end BW
/-! One unit more along the line; the claims of the prices. Plain mathematics. -/
namespace BW
/-! ### sums over 0 .. n - 1 -/
def S (n : Nat) (f : Nat → Int) : Int := ((List.range n).map f).sum
theorem S_zero (f : Nat → Int) : S 0 f = 0 := rfl
theorem S_succ (n : Nat) (f : Nat → Int) : S (n + 1) f = S n f + f n := by
  unfold S
  rw [List.range_succ, List.map_append, List.sum_append]
  simp
theorem S_congr {n : Nat} {f g : Nat → Int} (h : ∀ k, k < n → f k = g k) : S n f = S n g := by
  induction n with
  | zero => rfl
  | succ n ih => rw [S_succ, S_succ, ih fun k hk => h k (by omega), h n (by omega)]
theorem S_le {n : Nat} {f g : Nat → Int} (h : ∀ k, k < n → f k ≤ g k) : S n f ≤ S n g := by
  induction n with
  | zero => exact Int.le_refl _
  | succ n ih =>
    have := ih fun k hk => h k (by omega)
    have := h n (by omega)
    rw [S_succ, S_succ]
    omega
theorem S_add (n : Nat) (f g : Nat → Int) : S n (fun k => f k + g k) = S n f + S n g := by
  induction n with
  | zero => rfl
  | succ n ih => rw [S_succ, S_succ, S_succ, ih]; omega
theorem S_const0 (n : Nat) : S n (fun _ => 0) = 0 := by
  induction n with
  | zero => rfl
  | succ n ih => rw [S_succ, ih]; omega
theorem S_mul (n : Nat) (c : Int) (f : Nat → Int) : S n (fun k => c * f k) = c * S n f := by
  induction n with
  | zero => simp [S_zero]
  | succ n ih => rw [S_succ, S_succ, ih, Int.mul_add]
theorem S_comm (n m : Nat) (f : Nat → Nat → Int) : S n (fun i => S m (f i)) = S m (fun k => S n fun i => f i k) := by
  induction n with
  | zero => rw [S_zero]; exact (S_const0 m).symm
  | succ n ih =>
    rw [S_succ, ih, ← S_add]
    exact S_congr fun k _ => (S_succ _ _).symm
theorem S_change {n v : Nat} {f g : Nat → Int} (hv : v < n) (h : ∀ k, k < n → k ≠ v → g k = f k) : S n g = S n f + (g v - f v) := by
  induction n with
  | zero => omega
  | succ n ih =>
    rw [S_succ, S_succ]
    by_cases e : v = n
    · subst e
      rw [S_congr fun k hk => h k (by omega) (by omega)]
      omega
    · rw [ih (by omega) fun k hk => h k (by omega), h n (by omega) (by omega)]
      omega
/-- telescoping -/
theorem S_tele (p : Nat → Int) (b e : Nat) (hbe : b ≤ e) : ∀ N, e ≤ N → S N (fun k => if b ≤ k ∧ k < e then p (k + 1) - p k else 0) = p e - p b := by
  have lo : ∀ n, n ≤ b → S n (fun k => if b ≤ k ∧ k < e then p (k + 1) - p k else 0) = 0 := by
    intro n hn
    rw [S_congr (g := fun _ => 0) fun k hk => if_neg (by omega), S_const0]
  have mid : ∀ n, b ≤ n → n ≤ e → S n (fun k => if b ≤ k ∧ k < e then p (k + 1) - p k else 0) = p n - p b := by
    intro n
    induction n with
    | zero =>
      intro h1 h2
      have e0 : b = 0 := by omega
      rw [lo 0 (by omega), e0]
      omega
    | succ n ih =>
      intro h1 h2
      by_cases e1 : b = n + 1
      · rw [lo _ (by omega), e1]; omega
      · rw [S_succ, ih (by omega) (by omega), if_pos (by omega)]; omega
  intro N
  induction N with
  | zero =>
    intro h
    have := mid 0 (by omega) (by omega)
    rw [this]
    congr 2
    omega
  | succ N ih =>
    intro h
    by_cases e1 : e = N + 1
    · subst e1; exact mid _ hbe (Nat.le_refl _)
    · rw [S_succ, ih (by omega), if_neg (by omega)]; omega
/-! ### the line -/
abbrev Spn := Nat × Nat × Int
abbrev Ln := List Int × List Bool
def spn (sp : List Spn) (i : Nat) : Spn := sp.getD i (0, 0, 0)
def idl (s : Ln) (k : Nat) : Int := s.1.getD k 0
def tkn (s : Ln) (i : Nat) : Bool := s.2.getD i false
def pieceArcs (idle : List Int) (k : Nat) : List Arc := [⟨k, k + 1, 0, 0, k⟩] ++ (if 0 < idle.getD k 0 then [⟨k + 1, k, 0, 1, k⟩] else [])
def spanArc (sp : List Spn) (tk : List Bool) (i : Nat) : Arc :=
  if tk.getD i false = true then ⟨(spn sp i).2.1, (spn sp i).1, 0 - (spn sp i).2.2, 3, i⟩ else ⟨(spn sp i).1, (spn sp i).2.1, (spn sp i).2.2, 2, i⟩
def arcsOf (sp : List Spn) (s : Ln) : List Arc := ((List.range s.1.length).map (pieceArcs s.1)).flatten ++ (List.range sp.length).map (spanArc sp s.2)
theorem mem_arcs {sp : List Spn} {s : Ln} {a : Arc} : a ∈ arcsOf sp s ↔ (∃ k, k < s.1.length ∧ a = ⟨k, k + 1, 0, 0, k⟩) ∨ (∃ k, k < s.1.length ∧ 0 < idl s k ∧ a = ⟨k + 1, k, 0, 1, k⟩) ∨
    (∃ i, i < sp.length ∧ tkn s i = false ∧ a = ⟨(spn sp i).1, (spn sp i).2.1, (spn sp i).2.2, 2, i⟩) ∨ (∃ i, i < sp.length ∧ tkn s i = true ∧ a = ⟨(spn sp i).2.1, (spn sp i).1, 0 - (spn sp i).2.2, 3, i⟩) := by
  unfold arcsOf
  rw [List.mem_append, List.mem_flatten]
  constructor
  · rintro (⟨l, hl, ha⟩ | h)
    · obtain ⟨k, hk, rfl⟩ := List.mem_map.mp hl
      rw [List.mem_range] at hk
      unfold pieceArcs at ha
      rcases List.mem_append.mp ha with ha | ha
      · exact .inl ⟨k, hk, List.mem_singleton.mp ha⟩
      · split at ha
        · rename_i h
          exact .inr (.inl ⟨k, hk, h, List.mem_singleton.mp ha⟩)
        · cases ha
    · obtain ⟨i, hi, e⟩ := List.mem_map.mp h
      rw [List.mem_range] at hi
      unfold spanArc at e
      cases ht : tkn s i with
      | false =>
        rw [if_neg (by unfold tkn at ht; rw [ht]; simp)] at e
        exact .inr (.inr (.inl ⟨i, hi, ht, e.symm⟩))
      | true =>
        rw [if_pos (show s.2.getD i false = true from ht)] at e
        exact .inr (.inr (.inr ⟨i, hi, ht, e.symm⟩))
  · rintro (⟨k, hk, rfl⟩ | ⟨k, hk, h, rfl⟩ | ⟨i, hi, h, rfl⟩ | ⟨i, hi, h, rfl⟩)
    · exact .inl ⟨_, List.mem_map.mpr ⟨k, List.mem_range.mpr hk, rfl⟩, by unfold pieceArcs; simp⟩
    · exact .inl ⟨_, List.mem_map.mpr ⟨k, List.mem_range.mpr hk, rfl⟩, by unfold pieceArcs; rw [if_pos (show 0 < s.1.getD k 0 from h)]; simp⟩
    · refine .inr (List.mem_map.mpr ⟨i, List.mem_range.mpr hi, ?_⟩)
      unfold spanArc
      rw [if_neg (by unfold tkn at h; rw [h]; simp)]
    · refine .inr (List.mem_map.mpr ⟨i, List.mem_range.mpr hi, ?_⟩)
      unfold spanArc
      rw [if_pos (show s.2.getD i false = true from h)]
def Wsp (N : Nat) (sp : List Spn) : Prop := ∀ i, i < sp.length → (spn sp i).1 < (spn sp i).2.1 ∧ (spn sp i).2.1 ≤ N ∧ 0 ≤ (spn sp i).2.2
/-- the wishes that a potential meets -/
structure Pot (N : Nat) (sp : List Spn) (s : Ln) (p : Nat → Int) : Prop where
  up : ∀ k, k < N → p k ≤ p (k + 1)
  flat : ∀ k, k < N → 0 < idl s k → p (k + 1) ≤ p k
  out : ∀ i, i < sp.length → tkn s i = false → p (spn sp i).1 + (spn sp i).2.2 ≤ p (spn sp i).2.1
  inn : ∀ i, i < sp.length → tkn s i = true → p (spn sp i).2.1 - (spn sp i).2.2 ≤ p (spn sp i).1
theorem pot_feas {N : Nat} {sp : List Spn} {s : Ln} {p : Nat → Int} (hN : s.1.length = N) : Pot N sp s p ↔ Feas (arcsOf sp s) p := by
  subst hN
  constructor
  · intro h a ha
    rcases mem_arcs.mp ha with ⟨k, hk, rfl⟩ | ⟨k, hk, hi, rfl⟩ | ⟨i, hi, ht, rfl⟩ | ⟨i, hi, ht, rfl⟩
    · have := h.up k hk; dsimp only; omega
    · have := h.flat k hk hi; dsimp only; omega
    · exact h.out i hi ht
    · have := h.inn i hi ht; dsimp only; omega
  · intro h
    refine ⟨fun k hk => ?_, fun k hk hi => ?_, fun i hi ht => ?_, fun i hi ht => ?_⟩
    · have := h _ (mem_arcs.mpr (.inl ⟨k, hk, rfl⟩)); dsimp only at this; omega
    · have := h _ (mem_arcs.mpr (.inr (.inl ⟨k, hk, hi, rfl⟩))); dsimp only at this; omega
    · exact h _ (mem_arcs.mpr (.inr (.inr (.inl ⟨i, hi, ht, rfl⟩))))
    · have := h _ (mem_arcs.mpr (.inr (.inr (.inr ⟨i, hi, ht, rfl⟩)))); dsimp only at this; omega
theorem within_arcs {N : Nat} {sp : List Spn} {s : Ln} (hN : s.1.length = N) (W : Wsp N sp) : Within N (arcsOf sp s) := by
  intro a ha
  subst hN
  rcases mem_arcs.mp ha with ⟨k, hk, rfl⟩ | ⟨k, hk, hi, rfl⟩ | ⟨i, hi, ht, rfl⟩ | ⟨i, hi, ht, rfl⟩
  · dsimp only; omega
  · dsimp only; omega
  · have := W i hi; dsimp only; omega
  · have := W i hi; dsimp only; omega
theorem idle_arcs {N : Nat} {sp : List Spn} {s : Ln} (hN : s.1.length = N) : Idle N (arcsOf sp s) := fun k hk =>
  ⟨_, mem_arcs.mpr (.inl ⟨k, by omega, rfl⟩), rfl, rfl, rfl⟩
def cov (sp : List Spn) (i k : Nat) : Prop := (spn sp i).1 ≤ k ∧ k < (spn sp i).2.1
instance instCov (sp : List Spn) (i k : Nat) : Decidable (cov sp i k) := by unfold cov; exact inferInstance
def loadAt (sp : List Spn) (s : Ln) (k : Nat) : Int := S sp.length fun i => if tkn s i = true ∧ cov sp i k then 1 else 0
def wt (sp : List Spn) (s : Ln) : Int := S sp.length fun i => if tkn s i = true then (spn sp i).2.2 else 0
structure Held (N : Nat) (sp : List Spn) (b : Int) (s : Ln) : Prop where
  li : s.1.length = N
  lt : s.2.length = sp.length
  nn : ∀ k, k < N → 0 ≤ idl s k
  flow : ∀ k, k < N → idl s k + loadAt sp s k = b
  po : ∃ p, Pot N sp s p ∧ p 0 = 0
def go (a : Arc) (s : Ln) : Ln :=
  if a.t = 0 then (s.1.set a.n (idl s a.n + 1), s.2) else if a.t = 1 then (s.1.set a.n (idl s a.n - 1), s.2) else (s.1, s.2.set a.n (decide (a.t = 2)))
def back (ls : Ls) : Nat → Nat → Ln → Ln
  | 0, _, s => s
  | n + 1, v, s => match lAt ls v with
    | some a => back ls n a.u (go a s)
    | none => s
theorem idl_set {s : Ln} {k j : Nat} {x : Int} (h : k < s.1.length) : idl (s.1.set k x, s.2) j = if j = k then x else idl s j := by
  unfold idl
  rw [List.getD_eq_getElem?_getD, List.getD_eq_getElem?_getD, List.getElem?_set]
  by_cases e : j = k
  · subst e; simp [h]
  · rw [if_neg (fun q => e q.symm), if_neg e]
theorem tkn_set {s : Ln} {k j : Nat} {x : Bool} (h : k < s.2.length) : tkn (s.1, s.2.set k x) j = if j = k then x else tkn s j := by
  unfold tkn
  rw [List.getD_eq_getElem?_getD, List.getD_eq_getElem?_getD, List.getElem?_set]
  by_cases e : j = k
  · subst e; simp [h]
  · rw [if_neg (fun q => e q.symm), if_neg e]
/-- on the way back: v is reached, m steps are left -/
structure Way (N : Nat) (sp : List Spn) (b : Int) (ls : Ls) (p : Nat → Int) (w0 : Int) (m v : Nat) (s : Ln) : Prop where
  li : s.1.length = N
  lt : s.2.length = sp.length
  nn : ∀ k, k < N → 0 ≤ idl s k
  flow : ∀ k, k < N → idl s k + loadAt sp s k = b + (if v ≤ k then 1 else 0)
  po : Pot N sp s p
  w : wt sp s + p v = w0
  ok : ∀ x j a, j ≤ m → Reach ls x j → x ≠ 0 → lAt ls x = some a → a ∈ arcsOf sp s
theorem loadAt_idl (sp : List Spn) (s : Ln) (xs : List Int) (k : Nat) : loadAt sp (xs, s.2) k = loadAt sp s k := rfl
theorem wt_idl (sp : List Spn) (s : Ln) (xs : List Int) : wt sp (xs, s.2) = wt sp s := rfl
theorem loadAt_set {sp : List Spn} {s : Ln} {i : Nat} {x : Bool} (hl : s.2.length = sp.length) (hi : i < sp.length) (k : Nat) :
    loadAt sp (s.1, s.2.set i x) k = loadAt sp s k + ((if x = true ∧ cov sp i k then 1 else 0) - (if tkn s i = true ∧ cov sp i k then 1 else 0)) := by
  unfold loadAt
  rw [S_change (f := fun i => if tkn s i = true ∧ cov sp i k then 1 else 0) hi]
  · rw [tkn_set (by omega), if_pos rfl]
  · intro j hj e
    rw [tkn_set (by omega), if_neg e]
theorem wt_set {sp : List Spn} {s : Ln} {i : Nat} {x : Bool} (hl : s.2.length = sp.length) (hi : i < sp.length) :
    wt sp (s.1, s.2.set i x) = wt sp s + ((if x = true then (spn sp i).2.2 else 0) - (if tkn s i = true then (spn sp i).2.2 else 0)) := by
  unfold wt
  rw [S_change (f := fun i => if tkn s i = true then (spn sp i).2.2 else 0) hi]
  · rw [tkn_set (by omega), if_pos rfl]
  · intro j hj e
    rw [tkn_set (by omega), if_neg e]
theorem Way.turn {N : Nat} {sp : List Spn} {b : Int} {ls : Ls} {p : Nat → Int} {w0 : Int} {m v : Nat} {s : Ln} {a : Arc} (W : Wsp N sp) (K : Way N sp b ls p w0 (m + 1) v s) (hv : v ≠ 0) (ha : lAt ls v = some a) (hr : Reach ls a.u m)
    (hav : a.v = v) (tight : p v = p a.u + a.g) (tv : ∀ x a', x ≠ 0 → lAt ls x = some a' → a'.v = x) : Way N sp b ls p w0 m a.u (go a s) := by
  have rv : Reach ls v (m + 1) := .step hv ha hr
  have mem := K.ok v (m + 1) a (Nat.le_refl _) rv hv ha
  -- no arc that is still to come ends at v
  have other : ∀ x j a', j ≤ m → Reach ls x j → x ≠ 0 → lAt ls x = some a' → a'.v ≠ v := fun x j a' hj hx hx0 hl e => by
    rw [tv x a' hx0 hl] at e
    subst e
    have := Reach.inj hx rv
    omega
  have li := K.li
  have lt := K.lt
  rcases mem_arcs.mp mem with ⟨k, hk, rfl⟩ | ⟨k, hk, hi, rfl⟩ | ⟨i, hi, ht, rfl⟩ | ⟨i, hi, ht, rfl⟩
  · -- idle
    dsimp only at *
    have e : go ⟨k, k + 1, 0, 0, k⟩ s = (s.1.set k (idl s k + 1), s.2) := rfl
    rw [e]
    refine ⟨by rw [List.length_set]; exact li, lt, ?_, ?_, ⟨K.po.up, ?_, K.po.out, K.po.inn⟩, ?_, ?_⟩
    · intro j hj
      have := K.nn j hj
      rw [idl_set hk]
      split
      · rename_i e; subst e; omega
      · exact this
    · intro j hj
      have := K.flow j hj
      rw [idl_set hk, loadAt_idl]
      by_cases e : j = k
      · subst e
        rw [if_pos rfl, if_pos (Nat.le_refl _)]
        rw [if_neg (by omega)] at this
        omega
      · rw [if_neg e, this]
        congr 1
        by_cases h : v ≤ j
        · rw [if_pos h, if_pos (by omega)]
        · rw [if_neg h, if_neg (by omega)]
    · intro j hj hpos
      rw [idl_set hk] at hpos
      by_cases e : j = k
      · subst e
        rw [hav]; omega
      · rw [if_neg e] at hpos
        exact K.po.flat j hj hpos
    · rw [wt_idl]
      have := K.w
      omega
    · intro x j a' hj hx hx0 hl
      have := K.ok x j a' (by omega) hx hx0 hl
      rcases mem_arcs.mp this with ⟨k', hk', rfl⟩ | ⟨k', hk', hi', rfl⟩ | ⟨i, hi, ht, rfl⟩ | ⟨i, hi, ht, rfl⟩
      · exact mem_arcs.mpr (.inl ⟨k', by rw [List.length_set]; exact hk', rfl⟩)
      · refine mem_arcs.mpr (.inr (.inl ⟨k', by rw [List.length_set]; exact hk', ?_, rfl⟩))
        rw [idl_set hk]
        split
        · rename_i e; subst e; omega
        · exact hi'
      · exact mem_arcs.mpr (.inr (.inr (.inl ⟨i, hi, ht, rfl⟩)))
      · exact mem_arcs.mpr (.inr (.inr (.inr ⟨i, hi, ht, rfl⟩)))
  · -- unidle
    dsimp only at *
    have e : go ⟨k + 1, k, 0, 1, k⟩ s = (s.1.set k (idl s k - 1), s.2) := rfl
    rw [e]
    refine ⟨by rw [List.length_set]; exact li, lt, ?_, ?_, ⟨K.po.up, ?_, K.po.out, K.po.inn⟩, ?_, ?_⟩
    · intro j hj
      have := K.nn j hj
      rw [idl_set hk]
      split
      · omega
      · exact this
    · intro j hj
      have := K.flow j hj
      rw [idl_set hk, loadAt_idl]
      by_cases e : j = k
      · subst e
        rw [if_pos rfl, if_neg (by omega)]
        rw [if_pos (by omega)] at this
        omega
      · rw [if_neg e, this]
        congr 1
        by_cases h : v ≤ j
        · rw [if_pos h, if_pos (by omega)]
        · rw [if_neg h, if_neg (by omega)]
    · intro j hj hpos
      rw [idl_set hk] at hpos
      by_cases e : j = k
      · subst e
        exact K.po.flat j hj hi
      · rw [if_neg e] at hpos
        exact K.po.flat j hj hpos
    · rw [wt_idl]
      have := K.w
      omega
    · intro x j a' hj hx hx0 hl
      have := K.ok x j a' (by omega) hx hx0 hl
      have hne := other x j a' hj hx hx0 hl
      rcases mem_arcs.mp this with ⟨k', hk', rfl⟩ | ⟨k', hk', hi', rfl⟩ | ⟨i, hi, ht, rfl⟩ | ⟨i, hi, ht, rfl⟩
      · exact mem_arcs.mpr (.inl ⟨k', by rw [List.length_set]; exact hk', rfl⟩)
      · refine mem_arcs.mpr (.inr (.inl ⟨k', by rw [List.length_set]; exact hk', ?_, rfl⟩))
        dsimp only at hne
        rw [idl_set hk, if_neg (by omega)]
        exact hi'
      · exact mem_arcs.mpr (.inr (.inr (.inl ⟨i, hi, ht, rfl⟩)))
      · exact mem_arcs.mpr (.inr (.inr (.inr ⟨i, hi, ht, rfl⟩)))
  · -- take
    dsimp only at *
    have e : go ⟨(spn sp i).1, (spn sp i).2.1, (spn sp i).2.2, 2, i⟩ s = (s.1, s.2.set i true) := rfl
    rw [e]
    have wi := W i hi
    refine ⟨li, by rw [List.length_set]; exact lt, K.nn, ?_, ⟨K.po.up, K.po.flat, ?_, ?_⟩, ?_, ?_⟩
    · intro j hj
      have := K.flow j hj
      rw [loadAt_set lt hi, ht]
      show idl s j + _ = _
      by_cases c : cov sp i j
      · rw [if_pos ⟨rfl, c⟩, if_neg (fun q => by cases q.1), if_pos c.1]
        rw [if_neg (by have := c.2; omega)] at this
        omega
      · rw [if_neg (fun q => c q.2), if_neg (fun q => c q.2)]
        have : (if v ≤ j then (1 : Int) else 0) = if (spn sp i).1 ≤ j then 1 else 0 := by
          by_cases h : v ≤ j
          · rw [if_pos h, if_pos (by omega)]
          · rw [if_neg h, if_neg (fun q => c ⟨q, by omega⟩)]
        omega
    · intro j hj h
      rw [tkn_set (by omega)] at h
      by_cases e : j = i
      · rw [if_pos e] at h; cases h
      · rw [if_neg e] at h
        exact K.po.out j hj h
    · intro j hj h
      rw [tkn_set (by omega)] at h
      by_cases e : j = i
      · subst e
        rw [hav]
        omega
      · rw [if_neg e] at h
        exact K.po.inn j hj h
    · rw [wt_set lt hi, ht, if_pos rfl, if_neg (fun q => by cases q)]
      have := K.w
      omega
    · intro x j a' hj hx hx0 hl
      have := K.ok x j a' (by omega) hx hx0 hl
      have hne := other x j a' hj hx hx0 hl
      rcases mem_arcs.mp this with ⟨k', hk', rfl⟩ | ⟨k', hk', hi', rfl⟩ | ⟨i', hi', ht', rfl⟩ | ⟨i', hi', ht', rfl⟩
      · exact mem_arcs.mpr (.inl ⟨k', hk', rfl⟩)
      · exact mem_arcs.mpr (.inr (.inl ⟨k', hk', hi', rfl⟩))
      · refine mem_arcs.mpr (.inr (.inr (.inl ⟨i', hi', ?_, rfl⟩)))
        dsimp only at hne
        rw [tkn_set (by omega), if_neg (fun q => hne (by rw [q]; exact hav))]
        exact ht'
      · refine mem_arcs.mpr (.inr (.inr (.inr ⟨i', hi', ?_, rfl⟩)))
        rw [tkn_set (by omega)]
        split
        · rfl
        · exact ht'
  · -- leave
    dsimp only at *
    have e : go ⟨(spn sp i).2.1, (spn sp i).1, 0 - (spn sp i).2.2, 3, i⟩ s = (s.1, s.2.set i false) := rfl
    rw [e]
    have wi := W i hi
    refine ⟨li, by rw [List.length_set]; exact lt, K.nn, ?_, ⟨K.po.up, K.po.flat, ?_, ?_⟩, ?_, ?_⟩
    · intro j hj
      have := K.flow j hj
      rw [loadAt_set lt hi, ht]
      show idl s j + _ = _
      by_cases c : cov sp i j
      · rw [if_neg (fun q => by cases q.1), if_pos ⟨rfl, c⟩, if_neg (by have := c.2; omega)]
        rw [if_pos (by have := c.1; omega)] at this
        omega
      · rw [if_neg (fun q => c q.2), if_neg (fun q => c q.2)]
        have : (if v ≤ j then (1 : Int) else 0) = if (spn sp i).2.1 ≤ j then 1 else 0 := by
          by_cases h : v ≤ j
          · rw [if_pos h, if_pos (by
              by_cases h2 : (spn sp i).2.1 ≤ j
              · exact h2
              · exact absurd ⟨by omega, by omega⟩ c)]
          · rw [if_neg h, if_neg (by omega)]
        omega
    · intro j hj h
      rw [tkn_set (by omega)] at h
      by_cases e : j = i
      · subst e
        rw [hav]
        omega
      · rw [if_neg e] at h
        exact K.po.out j hj h
    · intro j hj h
      rw [tkn_set (by omega)] at h
      by_cases e : j = i
      · rw [if_pos e] at h; cases h
      · rw [if_neg e] at h
        exact K.po.inn j hj h
    · rw [wt_set lt hi, ht, if_neg (fun q => by cases q), if_pos rfl]
      have := K.w
      omega
    · intro x j a' hj hx hx0 hl
      have := K.ok x j a' (by omega) hx hx0 hl
      have hne := other x j a' hj hx hx0 hl
      rcases mem_arcs.mp this with ⟨k', hk', rfl⟩ | ⟨k', hk', hi', rfl⟩ | ⟨i', hi', ht', rfl⟩ | ⟨i', hi', ht', rfl⟩
      · exact mem_arcs.mpr (.inl ⟨k', hk', rfl⟩)
      · exact mem_arcs.mpr (.inr (.inl ⟨k', hk', hi', rfl⟩))
      · refine mem_arcs.mpr (.inr (.inr (.inl ⟨i', hi', ?_, rfl⟩)))
        rw [tkn_set (by omega)]
        split
        · rfl
        · exact ht'
      · refine mem_arcs.mpr (.inr (.inr (.inr ⟨i', hi', ?_, rfl⟩)))
        dsimp only at hne
        rw [tkn_set (by omega), if_neg (fun q => hne (by rw [q]; exact hav))]
        exact ht'
/-- the arcs, in any order -/
theorem Good.iff {N : Nat} {as bs : List Arc} {gs : Gs} {ls : Ls} (h : ∀ a, a ∈ as ↔ a ∈ bs) (G : Good N as gs ls) : Good N bs gs ls :=
  ⟨⟨G.ok.lg, G.ok.ll, G.ok.g0, fun v g e p f z => G.ok.le v g e p (fun a ha => f a ((h a).mp ha)) z, fun v g e hv => by
      obtain ⟨a, gu, h1, h2⟩ := G.ok.pr v g e hv
      exact ⟨a, gu, (h a).mp h1, h2⟩, G.ok.rc⟩, fun a ha => G.fix a ((h a).mpr ha)⟩
theorem Way.all {N : Nat} {sp : List Spn} {b : Int} {ls : Ls} {p : Nat → Int} {w0 : Int} (W : Wsp N sp) (tt : ∀ x a, x ≠ 0 → lAt ls x = some a → a.v = x ∧ p x = p a.u + a.g) :
    ∀ {m v : Nat} {s : Ln}, Reach ls v m → Way N sp b ls p w0 m v s → Way N sp b ls p w0 0 0 (back ls m v s)
  | _, _, _, .zero, K => K
  | _, _, s, .step (v := v) (n := n) (a := a) hv ha hr, K => by
    have e : back ls (n + 1) v s = back ls n a.u (go a s) := by
      show (match lAt ls v with | some a => back ls n a.u (go a s) | none => s) = _
      rw [ha]
    rw [e]
    exact Way.all W tt hr (K.turn W hv ha hr (tt v a hv ha).1 (tt v a hv ha).2 fun x a' h1 h2 => (tt x a' h1 h2).1)
theorem lAt_lt {ls : Ls} {x : Nat} {a : Arc} (h : lAt ls x = some a) : x < ls.length := by
  unfold lAt at h
  rcases Nat.lt_or_ge x ls.length with h' | h'
  · exact h'
  · rw [List.getD_eq_getElem?_getD, List.getElem?_eq_none h'] at h; cases h
theorem Good.tight {N : Nat} {sp : List Spn} {b : Int} {s : Ln} {gs : Gs} {ls : Ls} (W : Wsp N sp) (K : Held N sp b s) (G : Good N (arcsOf sp s) gs ls) : ∀ x a, x ≠ 0 → lAt ls x = some a → a ∈ arcsOf sp s ∧ a.v = x ∧ pot gs x = pot gs a.u + a.g := by
  intro x a hx hl
  have hxN : x ≤ N := by
    have := G.ok.ll
    have := lAt_lt hl
    omega
  obtain ⟨a', h1, h2, h3, h4⟩ := G.last (idle_arcs (sp := sp) K.li) (within_arcs K.li W) hxN hx
  rw [hl] at h2
  cases h2
  exact ⟨h1, h3, h4⟩
theorem Good.start {N : Nat} {sp : List Spn} {b : Int} {s : Ln} {gs : Gs} {ls : Ls} (W : Wsp N sp) (K : Held N sp b s) (G : Good N (arcsOf sp s) gs ls) (m : Nat) : Way N sp b ls (pot gs) (wt sp s + pot gs N) m N s := by
  have I := idle_arcs (sp := sp) K.li
  have Wi := within_arcs K.li W
  refine ⟨K.li, K.lt, K.nn, fun k hk => ?_, (pot_feas K.li).mpr (G.feas I Wi), rfl, fun x j a _ hx hx0 hl => (G.tight W K x a hx0 hl).1⟩
  rw [if_neg (by omega), K.flow k hk]; omega
/-- a unit more -/
theorem Held.sent {N : Nat} {sp : List Spn} {b : Int} {s : Ln} {gs : Gs} {ls : Ls} (W : Wsp N sp) (K : Held N sp b s) (G : Good N (arcsOf sp s) gs ls) {m : Nat} (r : Reach ls N m) :
    Held N sp (b + 1) (back ls m N s) ∧ wt sp (back ls m N s) = wt sp s + pot gs N := by
  have Y := Way.all W (fun x a h1 h2 => (G.tight W K x a h1 h2).2) r (G.start W K m)
  refine ⟨⟨Y.li, Y.lt, Y.nn, fun k hk => ?_, ⟨pot gs, Y.po, G.zero⟩⟩, ?_⟩
  · rw [Y.flow k hk, if_pos (Nat.zero_le _)]
  · have := Y.w
    have := G.zero
    omega
theorem Good.reach {N : Nat} {as : List Arc} {gs : Gs} {ls : Ls} (G : Good N as gs ls) (I : Idle N as) {v : Nat} (h : v ≤ N) : ∃ m, Reach ls v m := G.ok.rc v _ (G.all I v h)
/-- no price is above the greatest worth over its piece -/
theorem Good.clip {N : Nat} {sp : List Spn} {b : Int} {s : Ln} {gs : Gs} {ls : Ls} (W : Wsp N sp) (K : Held N sp b s) (G : Good N (arcsOf sp s) gs ls) {k : Nat} (hk : k < N) {g : Int} (g0 : 0 ≤ g)
    (hg : ∀ i, i < sp.length → cov sp i k → (spn sp i).2.2 ≤ g) : pot gs (k + 1) - pot gs k ≤ g := by
  have I := idle_arcs (sp := sp) K.li
  have Wi := within_arcs K.li W
  have P := (pot_feas K.li).mpr (G.feas I Wi)
  have mono : ∀ d u, u + d ≤ N → pot gs u ≤ pot gs (u + d) := by
    intro d
    induction d with
    | zero => intro u _; exact Int.le_refl _
    | succ d ih =>
      intro u h
      have := ih u (by omega)
      have := P.up (u + d) (by omega)
      rw [show u + (d + 1) = u + d + 1 from rfl]
      omega
  have mono2 : ∀ u v, u ≤ v → v ≤ N → pot gs u ≤ pot gs v := fun u v h h2 => by
    have := mono (v - u) u (by omega)
    rwa [show u + (v - u) = v by omega] at this
  by_cases h : pot gs (k + 1) - pot gs k ≤ g
  · exact h
  · exfalso
    have Q : Pot N sp s (fun v => if v ≤ k then pot gs v else pot gs v - (pot gs (k + 1) - pot gs k - g)) := by
      refine ⟨fun j hj => ?_, fun j hj hi => ?_, fun i hi ht => ?_, fun i hi ht => ?_⟩
      · have := P.up j hj
        show _ ≤ _
        by_cases e : j = k
        · subst e
          rw [if_pos (Nat.le_refl _), if_neg (by omega)]; omega
        · by_cases e2 : j ≤ k
          · rw [if_pos e2, if_pos (by omega)]; exact this
          · rw [if_neg e2, if_neg (by omega)]; omega
      · have := P.flat j hj hi
        show _ ≤ _
        by_cases e : j = k
        · subst e; omega
        · by_cases e2 : j ≤ k
          · rw [if_pos (by omega), if_pos e2]; exact this
          · rw [if_neg (by omega), if_neg e2]; omega
      · have := P.out i hi ht
        have wi := W i hi
        show _ ≤ _
        by_cases c : cov sp i k
        · rw [if_pos c.1, if_neg (by have := c.2; omega)]
          have h1 := hg i hi c
          have h2 := mono2 (spn sp i).1 k c.1 (by omega)
          have h3 := mono2 (k + 1) (spn sp i).2.1 c.2 wi.2.1
          omega
        · by_cases e2 : (spn sp i).1 ≤ k
          · rw [if_pos e2, if_pos (by
              by_cases h2 : (spn sp i).2.1 ≤ k
              · exact h2
              · exact absurd ⟨e2, by omega⟩ c)]
            exact this
          · rw [if_neg e2, if_neg (by omega)]; omega
      · have := P.inn i hi ht
        have wi := W i hi
        show _ ≤ _
        by_cases e2 : (spn sp i).1 ≤ k
        · rw [if_pos e2]
          split <;> omega
        · rw [if_neg e2, if_neg (by omega)]; omega
    have := G.least I ((pot_feas K.li).mp Q) (by rw [if_pos (Nat.zero_le _)]; exact G.zero) (k + 1) (by omega)
    rw [if_neg (by omega)] at this
    omega
/-- what the prices claim for as many units as were sent is the worth taken -/
theorem Held.claims {N : Nat} {sp : List Spn} {b : Int} {s : Ln} {p : Nat → Int} (W : Wsp N sp) (K : Held N sp b s) (P : Pot N sp s p) (z : p 0 = 0) :
    b * p N + S sp.length (fun i => if (spn sp i).2.2 - (p (spn sp i).2.1 - p (spn sp i).1) > 0 then (spn sp i).2.2 - (p (spn sp i).2.1 - p (spn sp i).1) else 0) = wt sp s := by
  have e1 : S sp.length (fun i => if (spn sp i).2.2 - (p (spn sp i).2.1 - p (spn sp i).1) > 0 then (spn sp i).2.2 - (p (spn sp i).2.1 - p (spn sp i).1) else 0) + S sp.length (fun i => if tkn s i = true then p (spn sp i).2.1 - p (spn sp i).1 else 0) = wt sp s := by
    unfold wt
    rw [← S_add]
    refine S_congr fun i hi => ?_
    cases ht : tkn s i with
    | true =>
      have := P.inn i hi ht
      rw [if_pos rfl, if_pos rfl]
      split <;> omega
    | false =>
      have := P.out i hi ht
      have h0 : ¬ ((spn sp i).2.2 - (p (spn sp i).2.1 - p (spn sp i).1) > 0) := by omega
      rw [if_neg h0, if_neg (by simp), if_neg (by simp)]
      omega
  have e2 : S sp.length (fun i => if tkn s i = true then p (spn sp i).2.1 - p (spn sp i).1 else 0) = S N fun k => (p (k + 1) - p k) * loadAt sp s k := by
    have a1 : S sp.length (fun i => if tkn s i = true then p (spn sp i).2.1 - p (spn sp i).1 else 0) = S sp.length fun i => S N fun k => (p (k + 1) - p k) * (if tkn s i = true ∧ cov sp i k then 1 else 0) := by
      refine S_congr fun i hi => ?_
      have wi := W i hi
      by_cases ht : tkn s i = true
      · rw [if_pos ht, ← S_tele p (spn sp i).1 (spn sp i).2.1 (by omega) N wi.2.1]
        refine S_congr fun k _ => ?_
        by_cases c : cov sp i k
        · rw [if_pos (show (spn sp i).1 ≤ k ∧ k < (spn sp i).2.1 from c), if_pos ⟨ht, c⟩]; omega
        · rw [if_neg (show ¬ ((spn sp i).1 ≤ k ∧ k < (spn sp i).2.1) from c), if_neg (fun q => c q.2)]; omega
      · rw [if_neg ht]
        refine (S_const0 N).symm.trans (S_congr fun k _ => ?_)
        rw [if_neg (fun q => ht q.1)]; omega
    rw [a1, S_comm]
    refine S_congr fun k _ => ?_
    unfold loadAt
    rw [← S_mul]
  have e3 : S N (fun k => (p (k + 1) - p k) * loadAt sp s k) = b * p N := by
    have a2 : S N (fun k => (p (k + 1) - p k) * loadAt sp s k) = S N fun k => b * (if 0 ≤ k ∧ k < N then p (k + 1) - p k else 0) := by
      refine S_congr fun k hk => ?_
      rw [if_pos ⟨Nat.zero_le _, hk⟩]
      have f := K.flow k hk
      by_cases hi : 0 < idl s k
      · have h1 := P.flat k hk hi
        have h2 := P.up k hk
        rw [show p (k + 1) - p k = 0 by omega]
        omega
      · have h1 := K.nn k hk
        rw [show loadAt sp s k = b by omega, Int.mul_comm]
    rw [a2, S_mul, S_tele p 0 N (Nat.zero_le _) N (Nat.le_refl _), z]
    congr 1
    omega
  omega
end BW
/-! From the line back to the book: papers, choices, rows. Plain mathematics. -/
namespace BW
def Inc (ms : List Int) : Prop := ms.Pairwise (· < ·)
theorem inc_lt {ms : List Int} (h : Inc ms) {i j : Nat} (hj : j < ms.length) (hij : i < j) : ms.getD i 0 < ms.getD j 0 := by
  have := List.pairwise_iff_getElem.mp h i j (by omega) hj hij
  simpa [List.getD_eq_getElem?_getD, List.getElem?_eq_getElem (show i < ms.length by omega), List.getElem?_eq_getElem hj] using this
theorem inc_le {ms : List Int} (h : Inc ms) {i j : Nat} (hi : i < ms.length) (hj : j < ms.length) : ms.getD i 0 ≤ ms.getD j 0 ↔ i ≤ j := by
  constructor
  · intro q
    rcases Nat.lt_or_ge j i with h2 | h2
    · have := inc_lt h hi h2; omega
    · exact h2
  · intro q
    rcases Nat.lt_or_ge i j with h2 | h2
    · have := inc_lt h hj h2; omega
    · have : i = j := by omega
      subst this; exact Int.le_refl _
theorem idx_get {ms : List Int} {m : Int} (h : m ∈ ms) : ms.getD (ms.idxOf m) 0 = m := by
  have := List.idxOf_lt_length_of_mem h
  rw [List.getD_eq_getElem?_getD, List.getElem?_eq_getElem this]
  simp
theorem idx_lt {ms : List Int} {m : Int} (h : m ∈ ms) : ms.idxOf m < ms.length := List.idxOf_lt_length_of_mem h
def spansOf (ms : List Int) (bk : Bk) : List Spn := bk.map fun s => (ms.idxOf s.1, ms.idxOf s.2.1, s.2.2)
theorem spansOf_len (ms : List Int) (bk : Bk) : (spansOf ms bk).length = bk.length := List.length_map _
theorem spn_of {ms : List Int} {bk : Bk} {i : Nat} (h : i < bk.length) : spn (spansOf ms bk) i = (ms.idxOf (stt bk i).1, ms.idxOf (stt bk i).2.1, (stt bk i).2.2) := by
  unfold spn spansOf stt
  simp [List.getD_eq_getElem?_getD, List.getElem?_eq_getElem h]
/-- the moments fit the book -/
structure Fit (ms : List Int) (bk : Bk) : Prop where
  inc : Inc ms
  b : ∀ i, i < bk.length → (stt bk i).1 ∈ ms
  e : ∀ i, i < bk.length → (stt bk i).2.1 ∈ ms
  lt : ∀ i, i < bk.length → (stt bk i).1 < (stt bk i).2.1
  w : ∀ i, i < bk.length → 0 ≤ (stt bk i).2.2
theorem Fit.idx {ms : List Int} {bk : Bk} (F : Fit ms bk) {i : Nat} (h : i < bk.length) : ms.idxOf (stt bk i).1 < ms.idxOf (stt bk i).2.1 := by
  have h1 := idx_lt (F.b i h)
  have h2 := idx_lt (F.e i h)
  have h3 := F.lt i h
  rcases Nat.lt_or_ge (ms.idxOf (stt bk i).1) (ms.idxOf (stt bk i).2.1) with q | q
  · exact q
  · have := (inc_le F.inc h2 h1).mpr q
    rw [idx_get (F.b i h), idx_get (F.e i h)] at this
    omega
theorem Fit.wsp {ms : List Int} {bk : Bk} (F : Fit ms bk) : Wsp (ms.length - 1) (spansOf ms bk) := by
  intro i hi
  rw [spansOf_len] at hi
  rw [spn_of hi]
  have := idx_lt (F.e i hi)
  exact ⟨F.idx hi, by dsimp only; omega, F.w i hi⟩
theorem Fit.ov {ms : List Int} {bk : Bk} (F : Fit ms bk) {i k : Nat} (h : i < bk.length) (hk : k < ms.length - 1) : over (stt bk i) (ms.getD k 0) = true ↔ cov (spansOf ms bk) i k := by
  unfold over cov
  rw [spn_of h]
  have h1 := idx_lt (F.b i h)
  have h2 := idx_lt (F.e i h)
  have a := inc_le F.inc (i := ms.idxOf (stt bk i).1) (j := k) h1 (by omega)
  have b := inc_le F.inc (i := ms.idxOf (stt bk i).2.1) (j := k) h2 (by omega)
  rw [idx_get (F.b i h)] at a
  rw [idx_get (F.e i h)] at b
  simp only [Bool.and_eq_true, decide_eq_true_eq]
  constructor
  · rintro ⟨x, y⟩
    exact ⟨a.mp x, by
      rcases Nat.lt_or_ge k (ms.idxOf (stt bk i).2.1) with q | q
      · exact q
      · have := b.mpr q; omega⟩
  · rintro ⟨x, y⟩
    exact ⟨a.mpr x, by
      by_cases q : ms.getD k 0 < (stt bk i).2.1
      · exact q
      · have := b.mp (by omega); omega⟩
/-! ### papers -/
def paperF (ms : List Int) (P : Nat → Int) : Paper := ((List.range (ms.length - 1)).map fun k => (ms.getD k 0, P k)).filter fun q => decide (q.2 > 0)
theorem sum_if (f : Int × Int → Bool) : ∀ (l : Paper), (∀ q ∈ l, 0 ≤ q.2) → (((l.filter fun q => decide (q.2 > 0)).filter f).map (·.2)).sum = (l.map fun q => if f q = true then q.2 else 0).sum
  | [], _ => rfl
  | q :: l, h => by
    have ih := sum_if f l fun x hx => h x (List.mem_cons_of_mem _ hx)
    have h0 := h q List.mem_cons_self
    rw [List.map_cons, List.sum_cons, ← ih, List.filter_cons]
    by_cases hq : q.2 > 0
    · rw [if_pos (by simpa using hq), List.filter_cons]
      by_cases hf : f q = true
      · rw [if_pos hf, if_pos hf]; simp
      · rw [if_neg hf, if_neg hf]; simp
    · rw [if_neg (by simpa using hq)]
      have : q.2 = 0 := by omega
      rw [this]
      simp
theorem toll_paper {ms : List Int} {P : Nat → Int} (hP : ∀ k, k < ms.length - 1 → 0 ≤ P k) (s : Sp3) : toll s (paperF ms P) = S (ms.length - 1) fun k => if over s (ms.getD k 0) = true then P k else 0 := by
  unfold toll paperF S
  rw [sum_if]
  · rw [List.map_map]; rfl
  · intro q hq
    obtain ⟨k, hk, rfl⟩ := List.mem_map.mp hq
    exact hP k (List.mem_range.mp hk)
theorem total_paper {ms : List Int} {P : Nat → Int} (hP : ∀ k, k < ms.length - 1 → 0 ≤ P k) : total (paperF ms P) = S (ms.length - 1) P := by
  unfold total paperF S
  have h : ∀ q ∈ ((List.range (ms.length - 1)).map fun k => (ms.getD k 0, P k)), 0 ≤ q.2 := by
    intro q hq
    obtain ⟨k, hk, rfl⟩ := List.mem_map.mp hq
    exact hP k (List.mem_range.mp hk)
  have := sum_if (fun _ => true) _ h
  rw [List.filter_eq_self.mpr (fun _ _ => rfl)] at this
  rw [this, List.map_map]
  rfl
theorem sum_S (bk : Bk) (f : Sp3 → Int) : (bk.map f).sum = S bk.length fun i => f (stt bk i) := by
  unfold S
  rw [← map_range (0, 0, 0) f bk]
  rfl
/-- what the prices of a potential claim -/
theorem claim_paper {ms : List Int} {bk : Bk} (F : Fit ms bk) {p : Nat → Int} (up : ∀ k, k < ms.length - 1 → p k ≤ p (k + 1)) (z : p 0 = 0) (B : Int) :
    claim bk B (paperF ms fun k => p (k + 1) - p k) = B * p (ms.length - 1) + S (spansOf ms bk).length (fun i => if (spn (spansOf ms bk) i).2.2 - (p (spn (spansOf ms bk) i).2.1 - p (spn (spansOf ms bk) i).1) > 0 then (spn (spansOf ms bk) i).2.2 - (p (spn (spansOf ms bk) i).2.1 - p (spn (spansOf ms bk) i).1) else 0) := by
  have hP : ∀ k, k < ms.length - 1 → 0 ≤ p (k + 1) - p k := fun k hk => by have := up k hk; omega
  unfold claim
  rw [total_paper hP, sum_S, spansOf_len]
  have e1 : S (ms.length - 1) (fun k => p (k + 1) - p k) = p (ms.length - 1) := by
    have := S_tele p 0 (ms.length - 1) (Nat.zero_le _) (ms.length - 1) (Nat.le_refl _)
    rw [S_congr (g := fun k => if 0 ≤ k ∧ k < ms.length - 1 then p (k + 1) - p k else 0) fun k hk => (if_pos ⟨Nat.zero_le _, hk⟩).symm, this, z]
    omega
  rw [e1]
  congr 1
  refine S_congr fun i hi => ?_
  have e2 : toll (stt bk i) (paperF ms fun k => p (k + 1) - p k) = p (spn (spansOf ms bk) i).2.1 - p (spn (spansOf ms bk) i).1 := by
    rw [toll_paper hP]
    have wi := F.wsp i (by rw [spansOf_len]; exact hi)
    rw [← S_tele p (spn (spansOf ms bk) i).1 (spn (spansOf ms bk) i).2.1 (by omega) (ms.length - 1) wi.2.1]
    refine S_congr fun k hk => ?_
    by_cases c : cov (spansOf ms bk) i k
    · rw [if_pos ((F.ov hi hk).mpr c), if_pos (show (spn (spansOf ms bk) i).1 ≤ k ∧ k < (spn (spansOf ms bk) i).2.1 from c)]
    · rw [if_neg (fun q => c ((F.ov hi hk).mp q)), if_neg (show ¬ ((spn (spansOf ms bk) i).1 ≤ k ∧ k < (spn (spansOf ms bk) i).2.1) from c)]
  unfold rest
  rw [e2, spn_of hi]
/-! ### the spans taken -/
def chosen (n : Nat) (s : Ln) : List Nat := (List.range n).filter fun i => tkn s i
theorem chosen_rising (n : Nat) (s : Ln) : Rising n (chosen n s) :=
  ⟨(List.pairwise_lt_range).sublist List.filter_sublist, fun i hi => List.mem_range.mp (List.mem_filter.mp hi).1⟩
theorem sum_filter {α : Type} (c : α → Bool) (f : α → Int) : ∀ (l : List α), ((l.filter c).map f).sum = (l.map fun i => if c i = true then f i else 0).sum
  | [] => rfl
  | x :: l => by
    rw [List.filter_cons, List.map_cons, List.sum_cons, ← sum_filter c f l]
    split <;> simp
theorem len_filter {α : Type} (c : α → Bool) : ∀ (l : List α), ((l.filter c).length : Int) = (l.map fun i => if c i = true then (1 : Int) else 0).sum
  | [] => rfl
  | x :: l => by
    rw [List.filter_cons, List.map_cons, List.sum_cons, ← len_filter c l]
    split
    · simp; omega
    · simp
theorem worth_chosen {ms : List Int} {bk : Bk} (s : Ln) : worth bk (chosen bk.length s) = wt (spansOf ms bk) s := by
  unfold worth chosen wt
  rw [sum_filter, spansOf_len]
  exact S_congr (n := bk.length) fun i hi => by rw [spn_of hi]
theorem load_chosen {ms : List Int} {bk : Bk} (F : Fit ms bk) (s : Ln) {k : Nat} (hk : k < ms.length - 1) : (load bk (chosen bk.length s) (ms.getD k 0) : Int) = loadAt (spansOf ms bk) s k := by
  unfold load chosen loadAt
  rw [List.filter_filter, len_filter, spansOf_len]
  refine S_congr (n := bk.length) fun i hi => ?_
  have := F.ov hi hk
  by_cases ht : tkn s i = true
  · by_cases c : cov (spansOf ms bk) i k
    · rw [if_pos (show tkn s i = true ∧ cov (spansOf ms bk) i k from ⟨ht, c⟩), if_pos (by rw [this.mpr c, ht]; rfl)]
    · rw [if_neg (show ¬ (tkn s i = true ∧ cov (spansOf ms bk) i k) from fun q => c q.2), if_neg (fun q => c (this.mp (Bool.and_eq_true_iff.mp q).1))]
  · rw [if_neg (show ¬ (tkn s i = true ∧ cov (spansOf ms bk) i k) from fun q => ht q.1), if_neg (fun q => ht (Bool.and_eq_true_iff.mp q).2)]
theorem crowd_chosen {ms : List Int} {bk : Bk} {b : Nat} {s : Ln} (F : Fit ms bk) (K : Held (ms.length - 1) (spansOf ms bk) b s) : crowd bk (chosen bk.length s) ≤ b := by
  refine crowd_le.mpr fun i hi => ?_
  have hin := (chosen_rising bk.length s).2 i hi
  have h1 := F.idx hin
  have h2 := idx_lt (F.e i hin)
  have hk : ms.idxOf (stt bk i).1 < ms.length - 1 := by omega
  have := load_chosen F s hk
  rw [idx_get (F.b i hin)] at this
  have f := K.flow _ hk
  have n := K.nn _ hk
  omega
/-! ### the row -/
structure PaperOk (p : Paper) : Prop where
  len : p.length ≤ 48
  rise : p.Pairwise (fun a b => a.1 < b.1)
  at_ : ∀ q ∈ p, (0 - 10 ^ 12 ≤ q.1 ∧ q.1 < 10 ^ 12) ∧ 1 ≤ q.2 ∧ q.2 ≤ 10 ^ 13
theorem paperF_ok {ms : List Int} {P : Nat → Int} (I : Inc ms) (hl : ms.length ≤ 48) (hr : ∀ m ∈ ms, 0 - 10 ^ 12 ≤ m ∧ m ≤ 10 ^ 12) (hP : ∀ k, k < ms.length - 1 → P k ≤ 10 ^ 13) : PaperOk (paperF ms P) := by
  refine ⟨?_, ?_, ?_⟩
  · have : (paperF ms P).length ≤ ((List.range (ms.length - 1)).map fun k => (ms.getD k 0, P k)).length := List.length_filter_le _ _
    rw [List.length_map, List.length_range] at this
    omega
  · unfold paperF
    refine List.Pairwise.sublist List.filter_sublist ?_
    rw [List.pairwise_map]
    refine List.Pairwise.imp_of_mem ?_ List.pairwise_lt_range
    intro a b ha hb hab
    rw [List.mem_range] at ha hb
    exact inc_lt I (by omega) hab
  · intro q hq
    obtain ⟨h1, h2⟩ := List.mem_filter.mp hq
    obtain ⟨k, hk, rfl⟩ := List.mem_map.mp h1
    rw [List.mem_range] at hk
    have h3 := of_decide_eq_true h2
    dsimp only at *
    have hm : ∀ j, j < ms.length → ms.getD j 0 ∈ ms := fun j hj => by
      rw [List.getD_eq_getElem?_getD, List.getElem?_eq_getElem hj]
      exact List.getElem_mem hj
    have a := hr _ (hm k (by omega))
    have b := hr _ (hm (ms.length - 1) (by omega))
    have c := inc_lt I (i := k) (j := ms.length - 1) (by omega) hk
    exact ⟨⟨a.1, by omega⟩, by omega, hP k hk⟩
abbrev Steps := List (Int × List Nat)
def stepW (st : Steps) (k : Nat) : Int := (st.getD k (0, [])).1
def stepC (st : Steps) (k : Nat) : List Nat := (st.getD k (0, [])).2
structure StepOk (bk : Bk) (k : Nat) (x : Int × List Nat) : Prop where
  r : Rising bk.length x.2
  c : crowd bk x.2 ≤ k
  w : x.1 = worth bk x.2
/-- a row that is being written: w is the worth for the next number of benches -/
structure RowPart (bk : Bk) (j : Nat) (st : Steps) (pp : List Paper) (w : Int) : Prop where
  sl : st.length = j
  pl : pp.length = j
  ch : ∀ k, k < j → StepOk bk k (st.getD k (0, []))
  pa : ∀ k, k < j → PaperOk (pp.getD k [])
  c0 : ∀ k, k < j → claim bk k (pp.getD k []) = stepW st k
  c1 : ∀ k, k + 1 < j → claim bk (k + 1) (pp.getD k []) = stepW st (k + 1)
  cw : ∀ k, k + 1 = j → claim bk (k + 1) (pp.getD k []) = w
theorem getD_app_lt {α : Type} {l : List α} {x d : α} {k : Nat} (h : k < l.length) : (l ++ [x]).getD k d = l.getD k d := by
  rw [List.getD_eq_getElem?_getD, List.getD_eq_getElem?_getD, List.getElem?_append_left h]
theorem getD_app_eq {α : Type} {l : List α} {x d : α} : (l ++ [x]).getD l.length d = x := by
  rw [List.getD_eq_getElem?_getD, List.getElem?_append_right (Nat.le_refl _)]
  simp
theorem RowPart.turn {bk : Bk} {j : Nat} {st : Steps} {pp : List Paper} {w w' : Int} {x : Int × List Nat} {p : Paper} (R : RowPart bk j st pp w) (hx : StepOk bk j x) (hw : x.1 = w) (hp : PaperOk p) (h0 : claim bk j p = w) (h1 : claim bk (j + 1) p = w') :
    RowPart bk (j + 1) (st ++ [x]) (pp ++ [p]) w' := by
  have sl := R.sl
  have pl := R.pl
  have ej : (st ++ [x]).getD j (0, []) = x := by rw [← sl]; exact getD_app_eq
  have ep : (pp ++ [p]).getD j [] = p := by rw [← pl]; exact getD_app_eq
  refine ⟨by simp [sl], by simp [pl], fun k hk => ?_, fun k hk => ?_, fun k hk => ?_, fun k hk => ?_, fun k hk => ?_⟩
  · by_cases e : k = j
    · subst e; rw [ej]; exact hx
    · rw [getD_app_lt (by omega)]; exact R.ch k (by omega)
  · by_cases e : k = j
    · subst e; rw [ep]; exact hp
    · rw [getD_app_lt (by omega)]; exact R.pa k (by omega)
  · by_cases e : k = j
    · subst e; unfold stepW; rw [ep, ej, hw]; exact h0
    · unfold stepW; rw [getD_app_lt (by omega), getD_app_lt (by omega)]; exact R.c0 k (by omega)
  · rw [getD_app_lt (by omega)]
    by_cases e : k + 1 = j
    · unfold stepW; rw [e, ej, hw]; exact R.cw k e
    · unfold stepW; rw [getD_app_lt (by omega)]; exact R.c1 k (by omega)
  · have : k = j := by omega
    subst this
    rw [ep]; exact h1
structure RowOk (bk : Bk) (st : Steps) (pp : List Paper) : Prop where
  sl : st.length = crowd bk (List.range bk.length) + 1
  pl : pp.length = crowd bk (List.range bk.length) + 1
  ch : ∀ k, k < st.length → StepOk bk k (st.getD k (0, []))
  pa : ∀ k, k < st.length → PaperOk (pp.getD k [])
  c0 : ∀ k, k < st.length → claim bk k (pp.getD k []) = stepW st k
  c1 : ∀ k, k + 1 < st.length → claim bk (k + 1) (pp.getD k []) = stepW st (k + 1)
  last : pp.getD (crowd bk (List.range bk.length)) [] = []
theorem rising_range (n : Nat) : Rising n (List.range n) := ⟨List.pairwise_lt_range, fun _ h => List.mem_range.mp h⟩
theorem worth_le_all {bk : Bk} (hw : ∀ i, i < bk.length → 0 ≤ (stt bk i).2.2) {c : List Nat} (hc : Rising bk.length c) : worth bk c ≤ worth bk (List.range bk.length) := by
  have h := rising_sub _ _ hc
  unfold worth
  have e : ∀ l : List Nat, (∀ i ∈ l, i < bk.length) → (l.map fun i => (stt bk i).2.2) = l.map fun i => if i < bk.length then (stt bk i).2.2 else 0 := fun l hl => List.map_congr_left fun i hi => (if_pos (hl i hi)).symm
  rw [e c hc.2, e _ fun i hi => List.mem_range.mp hi]
  refine sum_sublist (fun i => ?_) h
  split
  · rename_i h; exact hw i h
  · exact Int.le_refl _
theorem RowPart.full {ms : List Int} {bk : Bk} {st : Steps} {pp : List Paper} {s : Ln} {p : Nat → Int} (F : Fit ms bk) (R : RowPart bk (crowd bk (List.range bk.length) + 1) st pp (wt (spansOf ms bk) s))
    (hp : pp.getD (crowd bk (List.range bk.length)) [] = paperF ms fun k => p (k + 1) - p k) (up : ∀ k, k < ms.length - 1 → p k ≤ p (k + 1)) (z : p 0 = 0) (hw : wt (spansOf ms bk) s = stepW st (crowd bk (List.range bk.length)) + p (ms.length - 1)) : RowOk bk st pp := by
  refine ⟨R.sl, R.pl, by rw [R.sl]; exact R.ch, by rw [R.sl]; exact R.pa, by rw [R.sl]; exact R.c0, by rw [R.sl]; exact R.c1, ?_⟩
  have h1 := weak (bk := bk) (c := List.range bk.length) (k := crowd bk (List.range bk.length)) (p := pp.getD (crowd bk (List.range bk.length)) []) (rising_range _) (fun m => load_le_crowd _ _ _) (fun q hq => by
    have := (R.pa (crowd bk (List.range bk.length)) (by omega)).at_ q hq; omega)
  rw [R.c0 _ (by omega)] at h1
  have h2 : wt (spansOf ms bk) s ≤ worth bk (List.range bk.length) := by
    rw [← worth_chosen]
    exact worth_le_all F.w (chosen_rising _ _)
  have h3 : p (ms.length - 1) ≤ 0 := by omega
  have mono : ∀ d u, u + d ≤ ms.length - 1 → p u ≤ p (u + d) := by
    intro d
    induction d with
    | zero => intro u _; exact Int.le_refl _
    | succ d ih =>
      intro u h
      have := ih u (by omega)
      have := up (u + d) (by omega)
      rw [show u + (d + 1) = u + d + 1 from rfl]
      omega
  rw [hp]
  unfold paperF
  refine List.filter_eq_nil_iff.mpr fun q hq => ?_
  obtain ⟨k, hk, rfl⟩ := List.mem_map.mp hq
  rw [List.mem_range] at hk
  have a := mono k 0 (by omega)
  have b := mono (ms.length - 1 - (k + 1)) (k + 1) (by omega)
  rw [show k + 1 + (ms.length - 1 - (k + 1)) = ms.length - 1 by omega] at b
  rw [Nat.zero_add] at a
  simp only [decide_eq_true_eq]
  omega
/-- each step's worth is the most for its benches -/
theorem RowOk.most {bk : Bk} {st : Steps} {pp : List Paper} (R : RowOk bk st pp) {k : Nat} (hk : k < st.length) {c : List Nat} (hc : Rising bk.length c) (hl : crowd bk c ≤ k) : worth bk c ≤ stepW st k := by
  rw [← R.c0 k hk]
  exact weak hc (crowd_all.mp hl) fun q hq => by
    have := ((R.pa k hk).at_ q hq).2.1; omega
/-- what a bench more brings never rises -/
theorem RowOk.hollow {bk : Bk} {st : Steps} {pp : List Paper} (R : RowOk bk st pp) {k : Nat} (hk : k + 2 < st.length) : stepW st (k + 2) - stepW st (k + 1) ≤ stepW st (k + 1) - stepW st k := by
  have h0 := R.c0 k (by omega)
  have h1 := R.c1 k (by omega)
  have h2 := (R.ch (k + 2) hk)
  have h3 := weak (p := pp.getD k []) h2.r (crowd_all.mp h2.c) fun q hq => by
    have := ((R.pa k (by omega)).at_ q hq).2.1; omega
  have e : ∀ B : Int, claim bk (B + 1) (pp.getD k []) = claim bk B (pp.getD k []) + total (pp.getD k []) := fun B => by
    unfold claim; rw [Int.add_mul]; omega
  have e1 := e (k : Int)
  have e2 := e ((k : Int) + 1)
  have hw := h2.w
  have : stepW st (k + 2) ≤ claim bk ((k + 2 : Nat) : Int) (pp.getD k []) := by
    unfold stepW; rw [hw]; exact h3
  rw [show ((k + 2 : Nat) : Int) = (k : Int) + 1 + 1 by omega] at this
  omega
end BW
/-! Three rules more: set(a list of ints), sorted(a list of alike data), max(a list of ints, default=d). -/
namespace BRu
open PySem PySem.Spec PyProof.Rows L2

/-! ### sorted(xs), the items data of one kind -/
def rSrtD (K : PySem.W.Frag) : List V → Hp → VK → Prop := fun vs H Q => ∃ (β : Type) (a : Addr) (bs : List β) (fv : β → V) (fd : β → PyData), vs = [V.ref a] ∧ SqL K H a (bs.map fv) ∧ (∀ b ∈ bs, Dp K H (fv b) (fd b)) ∧ PySem.W.AllAlike (bs.map fd) ∧ PySem.W.Sortable (bs.map fd) ∧
  (∀ b ∈ bs, (fd b).depth ≤ 8) ∧ ∀ (cs : List β) (p : Addr), cs.Perm bs → H p = none → Q (.ref p) (upd H p (.lst (cs.map fv)))
theorem each_vals {β : Type} {fv : β → V} {bs : List β} : ∀ {us : List Value}, Vals (bs.map fv) us → PySem.W.EachIs (fun v b => RelV (fv b) v) us bs := by
  induction bs with
  | nil =>
    intro us r
    cases r
    exact .nil
  | cons b bs ih =>
    intro us r
    cases r with
    | cons r1 r2 => exact .cons r1 (ih r2)
theorem vals_each {β : Type} {fv : β → V} {bs : List β} : ∀ {us : List Value}, PySem.W.EachIs (fun v b => RelV (fv b) v) us bs → Vals (bs.map fv) us := by
  induction bs with
  | nil =>
    intro us r
    cases r
    exact .nil
  | cons b bs ih =>
    intro us r
    cases r with
    | cons r1 r2 => exact .cons r1 (ih r2)
section
variable {X : Cx}
theorem each_reads {pins : List (Addr × Obj)} {σ : L2.St} {H : Hp} {s : Shared} (I : Inv X pins σ H s) {β : Type} {fv : β → V} {fd : β → PyData} {bs : List β} : ∀ {us : List Value}, Vals (bs.map fv) us → (∀ b ∈ bs, Dp X.K H (fv b) (fd b)) →
    PySem.W.EachIs (fun v b => ∃ as, Reads s.heap v (fd b) as) us bs := by
  induction bs with
  | nil =>
    intro us r _
    cases r
    exact .nil
  | cons b bs ih =>
    intro us r hd
    cases r with
    | cons r1 r2 => exact .cons (Dp.reads I _ _ _ (hd b List.mem_cons_self) r1) (ih r2 fun c hc => hd c (List.mem_cons_of_mem _ hc))
theorem cr_srtD (hu : X.A.units + 64 < cLine) : CallR X (.builtin "sorted") (rSrtD X.K) := by
  intro pins s σ H vs us Q I r h
  obtain ⟨β, a, bs, fv, fd, rfl, hs, hd, al, so, dp, q⟩ := h
  obtain ⟨its, rv, hl, hz⟩ := I.list hs
  rw [Vals.ref1 r]
  rw [List.length_map] at hz
  refine PySem.W.sorted_data (enc := fd) (bs := bs) (R := fun v b => RelV (fv b) v) hl.isList (each_vals rv) (each_reads I rv hd) al so hz (fun b hb => ?_) fun out ho he => ?_
  · have := dp b hb
    omega
  · obtain ⟨ep, hat⟩ := PyProof.Rows.sortedAll_at s.heap its (List.toArray out)
    have pm : (bs.mergeSort (PySem.W.dataLe false fd)).Perm bs := List.mergeSort_perm bs _
    have hlen : ((bs.mergeSort (PySem.W.dataLe false fd)).map fv).length ≤ sizeLine := by
      rw [List.length_map, pm.length_eq]
      exact hz
    have J := I.laid (a := s.heap.objs.size + 1) (o := .lst ((bs.mergeSort (PySem.W.dataLe false fd)).map fv)) (t' := s.toks) (fun _ _ => PyProof.Rows.sortedAll_old) (Nat.le_succ _) ⟨hlen, out, ep, vals_each he, hat⟩
    exact ⟨.ref (s.heap.objs.size + 1), _, J, rfl, q _ _ pm (I.hok.fresh (Nat.le_succ _))⟩
end

/-! ### max(xs, default=d), ints -/
def rMaxD (K : PySem.W.Frag) : List V → List V → Hp → VK → Prop := fun vs zs H Q => ∃ (a : Addr) (ns : List Int) (d : Int), vs = [V.ref a] ∧ zs = [V.int d] ∧ SqL K H a (ns.map V.int) ∧ ns.length ≤ 1000 ∧ (ns = [] → Q (.int d) H) ∧
  ∀ m, m ∈ ns → (∀ y, y ∈ ns → y ≤ m) → Q (.int m) H
theorem fold_max_in : ∀ (ns : List Int) (n : Int), (ns.foldl max n = n ∨ ns.foldl max n ∈ ns) ∧ n ≤ ns.foldl max n ∧ ∀ y, y ∈ ns → y ≤ ns.foldl max n := by
  intro ns
  induction ns with
  | nil => intro n; exact ⟨.inl rfl, Int.le_refl _, fun y h => nomatch h⟩
  | cons k r ih =>
    intro n
    obtain ⟨h1, h2, h3⟩ := ih (max n k)
    rw [List.foldl_cons]
    refine ⟨?_, by omega, fun y hy => ?_⟩
    · rcases h1 with h1 | h1
      · rw [h1]
        rcases Int.le_total n k with h | h
        · right
          rw [Int.max_eq_right h]
          exact List.mem_cons_self
        · left
          exact Int.max_eq_left h
      · exact .inr (List.mem_cons_of_mem _ h1)
    · rcases List.mem_cons.mp hy with rfl | hy
      · omega
      · exact h3 y hy
theorem reads_ints {h : Heap} : ∀ {us : List Value} {ns : List Int}, IntsAre us ns → ∃ as, ReadsAll h us (ns.map .int) as
  | _, _, .nil => ⟨_, .nil⟩
  | _, _, .cons n t r => by
    obtain ⟨as, q⟩ := reads_ints r
    exact ⟨_, .cons (.int n t) q⟩
theorem alike_of_ints (ns : List Int) : PySem.W.AlikeAll (ns.map PyData.int) := by
  refine ⟨fun x hx y hy => ?_, fun x hx => ?_⟩
  · obtain ⟨i, _, rfl⟩ := List.mem_map.mp hx
    obtain ⟨j, _, rfl⟩ := List.mem_map.mp hy
    simp [PySem.W.alike]
  · obtain ⟨i, _, rfl⟩ := List.mem_map.mp hx
    intro q
    cases q
section
variable {X : Cx}
theorem cr_maxDf (hc : X.calm = true) (hu : X.A.units + 64 < cLine) : CallRK X (.builtin "max") [Str.ofString "default"] (rMaxD X.K) := by
  intro pins s σ H xs zs us ws Q I r rz h
  obtain ⟨a, ns, d, rfl, rfl, hs, hn, q0, q⟩ := h
  obtain ⟨its, rv, hl, hz⟩ := I.list hs
  rw [Vals.ref1 r]
  obtain ⟨dv, rfl, t, rfl⟩ := vals1 rz
  have hi := rv.ints
  obtain ⟨as, hr⟩ := reads_ints (h := s.heap) hi
  refine PySem.W.max_list_default (I.ok.hd hc) hl.isList hr (alike_of_ints ns) (by rw [PySem.W.depth_ints]; omega) (fun e h' tk k => ?_) fun y ys i v h' tk bs e hv hy k => ?_
  · have e0 : ns = [] := by
      cases ns with
      | nil => rfl
      | cons _ _ => cases e
    exact ⟨.int d, H, I.kept k, ⟨_, rfl⟩, q0 e0⟩
  · cases ns with
    | nil => cases e
    | cons n r =>
      injection e with e1 e2
      subst e1
      subst e2
      rw [PySem.W.maxD_ints] at hy
      cases hy
      obtain ⟨h1, h2, h3⟩ := fold_max_in r n
      refine ⟨.int _, H, I.kept k, ⟨_, rfl⟩, q _ ?_ fun z hz => ?_⟩
      · rcases h1 with h1 | h1
        · rw [h1]; exact List.mem_cons_self
        · exact List.mem_cons_of_mem _ h1
      · rcases List.mem_cons.mp hz with rfl | hz
        · exact h2
        · exact h3 z hz
end

/-! ### set(xs), a list of ints -/
section
variable {P : Program} {w : World} {A : Around} {E : Value → Shared → Prop} {s : Shared}
abbrev set0 (w : World) : Obj := { cls := .type "set", dict := none, data := .set #[] 0 (.fresh 0 0 (!w.params.followText "set-order")) }
theorem set_of_list {l : Addr} {vs : Array Value} (ns : List Int) {Q : Value → Shared → Prop} (calm : A.handled = none) (hl : s.heap.IsList l vs) (hi : IntsAre vs.toList ns) (few : ns.length + 1 < scanBound)
    (q : ∀ (h' : Heap) (tk c : Nat), SetR w h' s.heap.objs.size (fun j => decide (j ∈ ns)) c → c ≤ ns.length → (∀ b o, s.heap.get? b = some o → h'.get? b = some o) → Q (.ref s.heap.objs.size) { s with heap := h', toks := tk }) :
    wpAny (model P w) A (call (.type "set") [.ref l]) Q E s := by
  have size : vs.size = ns.length := by
    have e := IntsAre.length hi
    rwa [Array.length_toList] at e
  have m1 := PySem.F.called_set.made
  have m2 := PySem.F.called_set.sub
  have m3 := PySem.F.called_set.notType
  have m4 := PySem.F.called_set.canCreate
  have m5 := PySem.F.typeCall_set_1 (.ref l)
  obtain ⟨_, _, m6⟩ := PySem.F.called_set.mro
  refine wpAny_call (codeAny_of_tree ?_)
  show wpAny _ _ (callAny (.type "set") _) _ _ _
  refine wpAny_pure ⟨Code.quiet_builtin _ (by decide +kernel), ?_⟩
  refine codeAny_builtin PySem.F.entry_type_call ?_
  rw [Around.under_plain (weight_type_call_type "set" [.ref l] []) rfl]
  repeat (any_goals (first | assumption | wp_step))
  refine codeAny_mono (L2.code_set_led1 (Q₁ := fun v s1 => v = .ref s.heap.objs.size ∧ s1 = { s with heap := s.heap.push (set0 w) }) (.ref l) (E := E) ⟨rfl, rfl⟩) ?_
  intro r s1 hr
  match r, hr with
  | .error e, hr => exact hr
  | .ok (.ret v), hr =>
    obtain ⟨rfl, rfl⟩ := hr
    have at0 : (s.heap.push (set0 w)).get? s.heap.objs.size = some (set0 w) := Heap.get?_push_size _ rfl
    have ty0 : Shared.TypeIs { s with heap := s.heap.push (set0 w) } (.ref s.heap.objs.size) "set" := ⟨_, at0, rfl⟩
    have m7 := PySem.F.called_set.init.lookup
    have m8 := PySem.F.called_set.init.bind (.ref s.heap.objs.size)
    repeat (any_goals (first | assumption | wp_step))
    refine codeAny_mono (codeAny_call_builtin (R := wants (fun v s2 => v = .none ∧ ∃ h' tk c, s2 = { s with heap := h', toks := tk } ∧ SetR w h' s.heap.objs.size (fun j => decide (j ∈ ns)) c ∧ c ≤ ns.length ∧
      ∀ b o, s.heap.get? b = some o → h'.get? b = some o) E) PySem.F.called_set.init.plain PySem.F.entry_set_init (check_set_init_1 ty0 ?_)) fun r2 s2 hr2 => ?_
    · obtain ⟨⟨cls, dict, data, slots⟩, at1, e1, n1, e2⟩ := hl
      dsimp only at e1 e2
      subst e1
      subst e2
      have at2 : (s.heap.push (set0 w)).get? l = some { cls := .type "list", dict := dict, data := .seq vs n1, slots := slots } := Heap.get?_push_of_some _ at1
      have lst2 : (s.heap.push (set0 w)).IsList l vs := ⟨_, at2, rfl, n1, rfl⟩
      have s1 := PySem.F.sub_list_set
      have s2 := PySem.F.sub_list_frozenset
      have s3 : (Value.type "list" == Value.type "dict") = false := by decide
      unfold Builtin.«set.__init__» noKeywords Builtin.Frozenset.updateFrom
      generalize hI : pyIter = PI
      wp_walk
      subst hI
      have low : l < s.heap.objs.size := Heap.lt_size at1
      have sz1 : (s.heap.push (set0 w)).objs.size = s.heap.objs.size + 1 := Heap.size_push ..
      have far : l ≠ (s.heap.push (set0 w)).objs.size := by
        rw [sz1]
        exact Nat.ne_of_lt (Nat.lt_succ_of_lt low)
      have out : s.heap.objs.size ∉ [(s.heap.push (set0 w)).objs.size, l] := fun hm => by
        rcases List.mem_cons.mp hm with e | hm
        · rw [sz1] at e
          exact Nat.ne_of_lt (Nat.lt_succ_self _) e
        · exact Nat.ne_of_gt low (List.mem_singleton.mp hm)
      have val : ∀ (i : Nat) (v : Value), vs[i]? = some v → ∃ k t, ns[i]? = some k ∧ v = .int k t := by
        intro i v hv
        have hlt : i < ns.length := size ▸ (Array.getElem?_eq_some_iff.mp hv).1
        obtain ⟨t, e⟩ := IntsAre.int_at hi i v (by rwa [Array.getElem?_toList])
        refine ⟨ns[i], t, List.getElem?_eq_getElem hlt, ?_⟩
        rw [e, List.getD_eq_getElem?_getD, List.getElem?_eq_getElem hlt]
        rfl
      have calm3 : A.in1.in1.in1.handled = none := by simp [calm]
      refine wpAny_pyIter_list lst2 (wpAny_bind (wpAny_runValue ?_))
      refine L2.set_update_ints (Walks.list calm3 _ l far vs).toS s.heap.objs.size out ns size few val (vs.size - 0) 0 _ (by omega) (Nat.zero_le _)
        ⟨⟨_, Heap.get?_push_size _ rfl, rfl, rfl⟩, lst2.push _⟩ ⟨0, Nat.le_refl 0, L2.setR_new_at (Heap.get?_push_of_some _ at0)⟩ ?_
      intro s3 c mv hc hR
      obtain ⟨h3, g3, d3, t3, o3⟩ := s3
      obtain rfl : g3 = s.gens := mv.gens
      obtain rfl : d3 = s.drawn := mv.drawn
      obtain rfl : o3 = s.os := mv.os
      show wpAny _ _ _ _ _ _
      refine wpAny_pure ?_
      show wpAny _ _ (ret Value.none) _ _ _
      refine wpAny_pure ⟨rfl, h3, t3, c, rfl, hR, by omega, fun b o e => ?_⟩
      have hb := Heap.lt_size e
      refine mv.heap b o (fun hm => ?_) (Heap.get?_push_of_some _ (Heap.get?_push_of_some _ e))
      rcases List.mem_cons.mp hm with e3 | hm
      · exact Nat.ne_of_lt hb e3
      · have e4 := List.mem_singleton.mp hm
        rw [sz1] at e4
        exact Nat.ne_of_lt (Nat.lt_succ_of_lt hb) e4
    · match r2, hr2 with
      | .error e, hr2 => exact hr2
      | .ok (.ret v), hr2 =>
        obtain ⟨rfl, h2, t2, c2, rfl, z1, z2, z3⟩ := hr2
        repeat (any_goals (first | assumption | wp_step))
        exact q _ _ _ z1 z2 z3
end
/-- set(xs), ints -/
def rSetI (w : World) (K : PySem.W.Frag) : List V → Hp → VK → Prop := fun vs H Q => ∃ (a : Addr) (ns : List Int), vs = [V.ref a] ∧ SqL K H a (ns.map V.int) ∧ ns.length ≤ 60 ∧
  ∀ (p : Addr) (c : Nat), H p = none → c ≤ ns.length → Q (.ref p) (upd H p (SetO w p (fun j => decide (j ∈ ns)) c))
section
variable {X : Cx}
theorem cr_setI (hc : X.calm = true) : CallR X (.type "set") (rSetI X.w X.K) := by
  intro pins s σ H vs us Q I r h
  obtain ⟨a, ns, rfl, hs, few, q⟩ := h
  obtain ⟨its, rv, hl, hz⟩ := I.list hs
  rw [Vals.ref1 r]
  refine set_of_list ns (I.ok.hd hc) hl.isList rv.ints (Nat.lt_of_le_of_lt (Nat.add_le_add_right few 1) (by decide)) fun h' tk c hS hle k => ?_
  have J := I.laid (a := s.heap.objs.size) (t' := tk) k (Nat.le_refl _) (setO_new hS)
  exact ⟨.ref s.heap.objs.size, _, J, rfl, q _ c I.fresh hle⟩
end
end BRu
/-! What values stand for, what readings lead to: new objects told by the heap without what stood before. -/
namespace BW
open PySem L2 Evl
abbrev Frg := PySem.W.Frag
/-! ### the new part of a heap -/
def New (B H : Hp) : Hp := fun b => if (B b).isSome then none else H b
theorem new_ex {B H : Hp} : Ex (New B H) H := fun b o e => by
  unfold New at e
  split at e
  · cases e
  · exact e
theorem new_mono {B H H' : Hp} (k : Ex H H') : Ex (New B H) (New B H') := fun b o e => by
  unfold New at *
  split at e
  · cases e
  · rename_i h
    rw [if_neg h]
    exact k _ _ e
/-- a smaller base tells more -/
theorem new_base {B B' H : Hp} (d : ∀ b, B' b = none → B b = none) : Ex (New B' H) (New B H) := fun b o e => by
  unfold New at *
  split at e
  · cases e
  · rename_i h
    have h1 : B' b = none := by
      cases q : B' b with
      | none => rfl
      | some _ => rw [q] at h; simp at h
    rw [d b h1]
    exact e
theorem new_of {B H : Hp} {p : Addr} (h : B p = none) : New B H p = H p := by
  unfold New
  rw [h]
  rfl
theorem new_mut {B H : Hp} {p : Addr} {o u : HO} (h : B p = some u) : New B (upd H p o) = New B H := by
  funext b
  unfold New
  by_cases e : b = p
  · subst e
    rw [h]
    rfl
  · rw [upd_ne e]
theorem new_nil {H : Hp} : New (fun _ => none) H = H := rfl
theorem dom_ex {B H : Hp} (e : Ex B H) : ∀ b, H b = none → B b = none := fun b h => fresh_back e h
/-- what stands in B stands in H, whatever it is there -/
def Sub (B H : Hp) : Prop := ∀ b, H b = none → B b = none
theorem Sub.of {B H : Hp} (e : Ex B H) : Sub B H := dom_ex e
theorem Sub.ex {B H H' : Hp} (s : Sub B H) (e : Ex H H') : Sub B H' := fun b h => s b (fresh_back e h)
theorem Sub.nil {H : Hp} : Sub (fun _ => none) H := fun _ _ => rfl
theorem Sub.refl (H : Hp) : Sub H H := fun _ h => h
theorem Sub.upd {B H : Hp} {p : Addr} {o u : HO} (s : Sub B H) (h : H p = some u) : Sub (upd B p o) H := fun b hb => by
  have e : b ≠ p := fun q => by rw [q, h] at hb; cases hb
  rw [upd_ne e]
  exact s b hb
/-- what is new to a later heap is new -/
theorem new_call {B H1 H2 : Hp} (e : Sub B H1) : Ex (New H1 H2) (New B H2) := new_base e
/-! ### lists that go together -/
def All2 {α : Type} (R : V → α → Prop) (vs : List V) (xs : List α) : Prop := vs.length = xs.length ∧ ∀ (i : Nat) (v : V) (x : α), vs[i]? = some v → xs[i]? = some x → R v x
section
variable {α : Type} {R R' : V → α → Prop} {vs : List V} {xs : List α}
theorem All2.nil : All2 R [] [] := ⟨rfl, fun i v x h => by simp at h⟩
theorem All2.mono (h : All2 R vs xs) (k : ∀ v x, R v x → R' v x) : All2 R' vs xs := ⟨h.1, fun i v x a b => k v x (h.2 i v x a b)⟩
theorem All2.snoc {v : V} {x : α} (h : All2 R vs xs) (r : R v x) : All2 R (vs ++ [v]) (xs ++ [x]) := by
  refine ⟨by simp [h.1], fun i a b ha hb => ?_⟩
  by_cases e : i < vs.length
  · rw [List.getElem?_append_left e] at ha
    rw [List.getElem?_append_left (by have := h.1; omega)] at hb
    exact h.2 i a b ha hb
  · rw [List.getElem?_append_right (by omega)] at ha
    rw [List.getElem?_append_right (by have := h.1; omega), ← h.1] at hb
    cases q : i - vs.length with
    | zero =>
      rw [q] at ha hb
      simp at ha hb
      subst ha
      subst hb
      exact r
    | succ n =>
      rw [q] at ha
      simp at ha
theorem All2.at_ {i : Nat} {x : α} (h : All2 R vs xs) (hx : xs[i]? = some x) : ∃ v, vs[i]? = some v ∧ R v x := by
  have hi : i < vs.length := by have := (List.getElem?_eq_some_iff.mp hx).1; have := h.1; omega
  exact ⟨vs[i], List.getElem?_eq_getElem hi, h.2 i _ x (List.getElem?_eq_getElem hi) hx⟩
theorem All2.of_v {i : Nat} {v : V} (h : All2 R vs xs) (hv : vs[i]? = some v) : ∃ x, xs[i]? = some x ∧ R v x := by
  have hi : i < xs.length := by have := (List.getElem?_eq_some_iff.mp hv).1; have := h.1; omega
  exact ⟨xs[i], List.getElem?_eq_getElem hi, h.2 i v _ hv (List.getElem?_eq_getElem hi)⟩
theorem All2.app {ws : List V} {ys : List α} (h : All2 R vs xs) (k : All2 R ws ys) : All2 R (vs ++ ws) (xs ++ ys) := by
  refine ⟨by simp [h.1, k.1], fun i a b ha hb => ?_⟩
  by_cases e : i < vs.length
  · rw [List.getElem?_append_left e] at ha
    rw [List.getElem?_append_left (by have := h.1; omega)] at hb
    exact h.2 i a b ha hb
  · rw [List.getElem?_append_right (by omega)] at ha
    rw [List.getElem?_append_right (by have := h.1; omega), ← h.1] at hb
    exact k.2 _ a b ha hb
theorem All2.map {β : Type} (f : β → α) (g : β → V) (l : List β) (h : ∀ b ∈ l, R (g b) (f b)) : All2 R (l.map g) (l.map f) := by
  refine ⟨by simp, fun i a b ha hb => ?_⟩
  rw [List.getElem?_map] at ha hb
  cases q : l[i]? with
  | none => rw [q] at ha; cases ha
  | some y =>
    rw [q] at ha hb
    cases ha
    cases hb
    exact h y (List.mem_of_getElem? q)
theorem All2.drop (n : Nat) (h : All2 R vs xs) : All2 R (vs.drop n) (xs.drop n) := ⟨by simp [h.1], fun i a b ha hb => by
  rw [List.getElem?_drop] at ha hb
  exact h.2 _ a b ha hb⟩
theorem All2.take (n : Nat) (h : All2 R vs xs) : All2 R (vs.take n) (xs.take n) := ⟨by simp [h.1], fun i a b ha hb => by
  rw [List.getElem?_take] at ha hb
  split at ha
  · rename_i q
    rw [if_pos q] at hb
    exact h.2 _ a b ha hb
  · cases ha⟩
end
/-! ### what a value stands for -/
abbrev Rep (α : Type) := Hp → V → α → Prop
class Mono {α : Type} (R : Rep α) : Prop where
  mono : ∀ {H H' : Hp} {v : V} {x : α}, Ex H H' → R H v x → R H' v x
def rInt : Rep Int := fun _ v i => v = .int i
def rNat : Rep Nat := fun _ v i => v = .int (i : Int)
def rLst (K : Frg) {α : Type} (R : Rep α) : Rep (List α) := fun H v xs => ∃ a vs, v = .ref a ∧ SqL K H a vs ∧ All2 (R H) vs xs
/-- a list that stands in the heap by itself -/
def rTL {α : Type} (R : Rep α) : Rep (List α) := fun H v xs => ∃ a vs, v = .ref a ∧ H a = some (.lst vs) ∧ All2 (R H) vs xs
theorem rTL.lst {K : Frg} {α : Type} {R : Rep α} {H : Hp} {v : V} {xs : List α} (h : rTL R H v xs) : rLst K R H v xs := by
  obtain ⟨a, vs, h1, h2, h3⟩ := h
  exact ⟨a, vs, h1, sq_of h2, h3⟩
/-- a stretch: its name is left open -/
def rStt (K : Frg) : Rep Sp3 := fun H v s => ∃ t n, v = .ref t ∧ SqT K H t [.str n, .int s.1, .int s.2.1, .int s.2.2]
def rII (K : Frg) : Rep (Int × Int) := fun H v q => ∃ t, v = .ref t ∧ SqT K H t [.int q.1, .int q.2]
def rSpn (K : Frg) : Rep Spn := fun H v s => ∃ t, v = .ref t ∧ SqT K H t [.int (s.1 : Int), .int (s.2.1 : Int), .int s.2.2]
def kindS : Nat → Str
  | 0 => "idle"
  | 1 => "unidle"
  | 2 => "take"
  | _ => "leave"
def rArc (K : Frg) : Rep Arc := fun H v a => ∃ t, v = .ref t ∧ SqT K H t [.int (a.u : Int), .int (a.v : Int), .int a.g, .str (kindS a.t), .int (a.n : Int)]
def rStep (K : Frg) : Rep (Int × List Nat) := fun H v s => ∃ t y, v = .ref t ∧ SqT K H t [.int s.1, y] ∧ rLst K rNat H y s.2
def rRow (K : Frg) : Rep (Steps × List Paper) := fun H v r => ∃ t x y, v = .ref t ∧ SqT K H t [.str "row", x, y] ∧ rLst K (rStep K) H x r.1 ∧ rLst K (rLst K (rII K)) H y r.2
instance mInt : Mono rInt := ⟨fun _ h => h⟩
instance mNat : Mono rNat := ⟨fun _ h => h⟩
instance mLst {K : Frg} {α : Type} {R : Rep α} [Mono R] : Mono (rLst K R) := ⟨fun e ⟨a, vs, h1, h2, h3⟩ => ⟨a, vs, h1, ex_l e h2, h3.mono fun _ _ => Mono.mono e⟩⟩
instance mTL {α : Type} {R : Rep α} [Mono R] : Mono (rTL R) := ⟨fun e ⟨a, vs, h1, h2, h3⟩ => ⟨a, vs, h1, e _ _ h2, h3.mono fun _ _ => Mono.mono e⟩⟩
instance mStt {K : Frg} : Mono (rStt K) := ⟨fun e ⟨t, n, h1, h2⟩ => ⟨t, n, h1, ex_t e h2⟩⟩
instance mII {K : Frg} : Mono (rII K) := ⟨fun e ⟨t, h1, h2⟩ => ⟨t, h1, ex_t e h2⟩⟩
instance mSpn {K : Frg} : Mono (rSpn K) := ⟨fun e ⟨t, h1, h2⟩ => ⟨t, h1, ex_t e h2⟩⟩
instance mArc {K : Frg} : Mono (rArc K) := ⟨fun e ⟨t, h1, h2⟩ => ⟨t, h1, ex_t e h2⟩⟩
instance mStep {K : Frg} : Mono (rStep K) := ⟨fun e ⟨t, y, h1, h2, h3⟩ => ⟨t, y, h1, ex_t e h2, Mono.mono e h3⟩⟩
instance mRow {K : Frg} : Mono (rRow K) := ⟨fun e ⟨t, x, y, h1, h2, h3, h4⟩ => ⟨t, x, y, h1, ex_t e h2, Mono.mono e h3, Mono.mono e h4⟩⟩
theorem all2_int {H : Hp} {vs : List V} {ns : List Int} (h : All2 (rInt H) vs ns) : vs = ns.map V.int := by
  apply List.ext_getElem?
  intro i
  rw [List.getElem?_map]
  by_cases q : i < ns.length
  · obtain ⟨v, hv, e⟩ := h.at_ (List.getElem?_eq_getElem q)
    rw [hv, List.getElem?_eq_getElem q, e]
    rfl
  · rw [List.getElem?_eq_none (by have := h.1; omega), List.getElem?_eq_none (by omega)]
    rfl
theorem int_all2 {H : Hp} (ns : List Int) : All2 (rInt H) (ns.map V.int) ns := by
  have := All2.map (R := rInt H) id V.int ns fun _ _ => rfl
  rwa [List.map_id] at this
theorem all2_nat {H : Hp} {vs : List V} {ns : List Nat} (h : All2 (rNat H) vs ns) : vs = (ns.map fun n : Nat => (n : Int)).map V.int := by
  apply List.ext_getElem?
  intro i
  rw [List.getElem?_map, List.getElem?_map]
  by_cases q : i < ns.length
  · obtain ⟨v, hv, e⟩ := h.at_ (List.getElem?_eq_getElem q)
    rw [hv, List.getElem?_eq_getElem q, e]
    rfl
  · rw [List.getElem?_eq_none (by have := h.1; omega), List.getElem?_eq_none (by omega)]
    rfl
theorem nat_all2 {H : Hp} (ns : List Nat) : All2 (rNat H) ((ns.map fun n : Nat => (n : Int)).map V.int) ns := by
  rw [List.map_map]
  have := All2.map (R := rNat H) id (V.int ∘ fun n : Nat => (n : Int)) ns fun _ _ => rfl
  rwa [List.map_id] at this
/-- lists of ints as the rules ask them -/
theorem rLst_int {K : Frg} {H : Hp} {v : V} {ns : List Int} : rLst K rInt H v ns ↔ ∃ a, v = .ref a ∧ SqL K H a (ns.map V.int) :=
  ⟨fun ⟨a, vs, h1, h2, h3⟩ => ⟨a, h1, by rw [← all2_int h3]; exact h2⟩, fun ⟨a, h1, h2⟩ => ⟨a, _, h1, h2, int_all2 ns⟩⟩
theorem rLst_nat {K : Frg} {H : Hp} {v : V} {ns : List Nat} : rLst K rNat H v ns ↔ ∃ a, v = .ref a ∧ SqL K H a ((ns.map fun n : Nat => (n : Int)).map V.int) :=
  ⟨fun ⟨a, vs, h1, h2, h3⟩ => ⟨a, h1, by rw [← all2_nat h3]; exact h2⟩, fun ⟨a, h1, h2⟩ => ⟨a, _, h1, h2, nat_all2 ns⟩⟩
/-! ### what a reading leads to: a value of which R holds, in what is new to B -/
def EvB (te : TE) (σ : L2.St) (H : Hp) (B : Hp) (R : Hp → V → Prop) : Prop := ∀ H1, Ex H H1 → ∀ Q : VK, (∀ v H2, Ex H1 H2 → R (New B H2) v → Q v H2) → te σ H1 Q
/-- the promises' shapes: a value; a new thing -/
abbrev RetV (v : V) (H : Hp) (Q : VK) : Prop := ∀ H2, Ex H H2 → Q v H2
abbrev RetN (R : Hp → V → Prop) (H : Hp) (Q : VK) : Prop := ∀ v H2, Ex H H2 → R (New H H2) v → Q v H2
section
variable {K : Frg} {σ : L2.St} {H H' B : Hp} {te ta tb : TE} {R : Hp → V → Prop} {v x y z : V}
theorem EvB.mono (e : Ex H H') (h : EvB te σ H B R) : EvB te σ H' B R := fun H1 a Q q => h H1 (e.trans a) Q q
theorem evb_ev (h : Ev te σ H v) (m : ∀ H1, Ex H H1 → R (New B H1) v) : EvB te σ H B R := fun H1 e Q q => h H1 e Q fun H2 e2 => q v H2 e2 (m H2 (e.trans e2))
theorem evb_ev0 {α : Type} {S : Rep α} [Mono S] {a : α} (h : Ev te σ H v) (m : S (New B H) v a) : EvB te σ H B (fun G v => S G v a) := evb_ev h fun _ e => Mono.mono (new_mono e) m
/-- a call of a def that hands back a new thing -/
def SpN (sp : Sp) (vs : List V) (H : Hp) (R : Hp → V → Prop) : Prop := ∀ H1, Ex H H1 → ∀ Q : VK, RetN R H1 Q → ∀ E : XK, sp vs H1 Q E
theorem evb_call {α : Type} {S : Rep α} [Mono S] {a : α} {sp : Sp} {dvs vs : List V} {E : XK} {ta : TA} (hB : Sub B H) (h : EvA ta σ H vs) (hs : SpN sp (vs ++ dvs) H (fun G v => S G v a)) : EvB (tCall sp dvs E ta) σ H B (fun G v => S G v a) := fun H1 e Q q =>
  h H1 e _ fun H2 e2 => hs H2 (e.trans e2) _ (fun v H3 e3 r => q v H3 (e2.trans e3) (Mono.mono (new_call ((hB.ex e).ex e2)) r)) E
/-- a new tuple, a new list of values that are known -/
theorem evb_tup {ta : TA} {vs : List V} (h : EvA ta σ H vs) (hl : vs.length ≤ 100000) (hB : Sub B H) (r : ∀ G p, G p = some (.tup vs) → Ex (New B H) G → R G (.ref p)) : EvB (tTup ta) σ H B R := fun H1 e Q q =>
  h H1 e _ fun H2 e2 => ⟨sz_of hl, fun p hp => q _ _ (e2.trans (Ex.new hp)) (r _ p (by rw [new_of (((hB.ex e).ex e2) _ hp), upd_same]) (new_mono ((e.trans e2).trans (Ex.new hp))))⟩
theorem evb_lst {ta : TA} {vs : List V} (h : EvA ta σ H vs) (hl : vs.length ≤ 100000) (hB : Sub B H) (r : ∀ G p, G p = some (.lst vs) → Ex (New B H) G → R G (.ref p)) : EvB (tLst ta) σ H B R := fun H1 e Q q =>
  h H1 e _ fun H2 e2 => ⟨sz_of hl, fun p hp => q _ _ (e2.trans (Ex.new hp)) (r _ p (by rw [new_of (((hB.ex e).ex e2) _ hp), upd_same]) (new_mono ((e.trans e2).trans (Ex.new hp))))⟩
/-- what is new and told exactly -/
theorem evb_evl {xs : List V} (h : EvL te σ H xs) (hB : Sub B H) (r : ∀ G p, G p = some (.lst xs) → Ex (New B H) G → R G (.ref p)) : EvB te σ H B R := fun H1 e Q q =>
  h H1 e _ fun p H2 hp e2 h2 => q _ _ e2 (r _ p (by rw [new_of ((hB.ex e) _ hp), h2]) (new_mono (e.trans e2)))
/-! ### statements -/
variable {D : Ends} {tz : TS}
theorem b_asg {i : Nat} (h : EvB te σ H B R) (k : ∀ v H1, Ex H H1 → R (New B H1) v → D.nx (σ.set i (some v)) H1) : tAsg te (gName i) D σ H := h H (Ex.refl H) _ fun v H1 e r => k v H1 e r
theorem c_asg {i : Nat} (h : EvB te σ H B R) (k : ∀ v H1, Ex H H1 → R (New B H1) v → tz D (σ.set i (some v)) H1) : tSeq (tAsg te (gName i)) tz D σ H := b_asg (D := { D with nx := tz D }) h k
theorem b_ret (h : EvB te σ H B R) (k : ∀ v H1, Ex H H1 → R (New B H1) v → D.rt v H1) : tRet te D σ H := h H (Ex.refl H) _ k
end
/-! ### comprehensions whose items are new -/
section
variable {α : Type} {S : Rep α} [Mono S]
/-- behind i turns: B is what stood when the new list was made, the list itself included -/
def Cn (S : Rep α) (B H1 : Hp) (f : Nat → Option α) (Dl : Addr) (i : Nat) (H' : Hp) : Prop :=
  H1 Dl = none ∧ Ex H1 H' ∧ ∃ acc, H' Dl = some (.lst acc) ∧ acc.length ≤ i ∧ All2 (S (New (upd B Dl (.lst [])) H')) acc ((List.range i).filterMap f)
theorem cn_turn {B H1 H' H2 : Hp} {f : Nat → Option α} {Dl : Addr} {i : Nat} {σ2 : L2.St} {t : TT} {te : TE} (hB : Sub B H1) (p : Cn S B H1 f Dl i H') (e2 : Ex H' H2) (hi : i < 50000) (ht : EvT t σ2 H2 (f i).isSome)
    (he : ∀ y, f i = some y → EvB te σ2 H2 (upd B Dl (.lst [])) (fun G v => S G v y)) :
    t σ2 H2 fun b H3 => if b = true then te σ2 H3 fun y H4 => ∃ acc, H4 Dl = some (.lst acc) ∧ acc.length < sizeLine ∧ Cn S B H1 f Dl (i + 1) (upd H4 Dl (.lst (acc ++ [y]))) else Cn S B H1 f Dl (i + 1) H3 := by
  obtain ⟨p1, p2, acc, p3, p4, p5⟩ := p
  refine ht H2 (Ex.refl H2) _ fun H3 e3 => ?_
  cases hf : f i with
  | some y =>
    show te σ2 H3 fun y H4 => ∃ acc, H4 Dl = some (.lst acc) ∧ acc.length < sizeLine ∧ Cn S B H1 f Dl (i + 1) (upd H4 Dl (.lst (acc ++ [y])))
    refine he y hf H3 e3 _ fun v H4 e4 r => ⟨acc, e4 _ _ (e3 _ _ (e2 _ _ p3)), sz_lt (by omega), p1, Ex.mut (((p2.trans e2).trans e3).trans e4) p1, acc ++ [v], upd_same, by simp; omega, ?_⟩
    rw [List.range_succ, List.filterMap_append]
    have e5 : New (upd B Dl (.lst [])) (upd H4 Dl (.lst (acc ++ [v]))) = New (upd B Dl (.lst [])) H4 := new_mut upd_same
    rw [e5]
    have q : All2 (S (New (upd B Dl (.lst [])) H4)) acc ((List.range i).filterMap f) := p5.mono fun _ _ => Mono.mono (new_mono ((e2.trans e3).trans e4))
    have e6 : List.filterMap f [i] = [y] := by simp [List.filterMap_cons, hf]
    rw [e6]
    exact q.snoc r
  | none =>
    show Cn S B H1 f Dl (i + 1) H3
    refine ⟨p1, (p2.trans e2).trans e3, acc, e3 _ _ (e2 _ _ p3), by omega, ?_⟩
    rw [List.range_succ, List.filterMap_append]
    have e6 : List.filterMap f [i] = [] := by simp [List.filterMap_cons, hf]
    rw [e6, List.append_nil]
    exact p5.mono fun _ _ => Mono.mono (new_mono (e2.trans e3))
theorem Cn.fin {B H1 H' : Hp} {f : Nat → Option α} {Dl : Addr} {n : Nat} (hB : Sub B H1) (p : Cn S B H1 f Dl n H') : rTL S (New B H') (.ref Dl) ((List.range n).filterMap f) := by
  obtain ⟨p1, p2, acc, p3, p4, p5⟩ := p
  have h0 : B Dl = none := hB _ p1
  refine ⟨Dl, acc, rfl, (by rw [new_of h0]; exact p3), p5.mono fun _ _ => Mono.mono (new_base fun b hb => ?_)⟩
  by_cases e : b = Dl
  · rw [e]; exact h0
  · rw [upd_ne e] at hb; exact hb
variable {K : Frg} {σ : L2.St} {H B : Hp} {te : TE} {t : TT}
theorem evb_lcL {a : Addr} {xs : List V} {tl : TE} {j : Nat} {vs : List Nat} (f : Nat → Option α) (hB : Sub B H) (h : Ev tl σ H (.ref a)) (hx : SqL K H a xs) (hz : xs.length ≤ 40000) (hw : ∀ x, wipe ((wipe σ vs).set j (some x)) vs = wipe σ vs)
    (ht : ∀ (i : Nat) (x : V) H1, Ex H H1 → xs[i]? = some x → EvT t ((wipe σ vs).set j (some x)) H1 (f i).isSome)
    (he : ∀ (i : Nat) (x : V) H1 B1 y, Ex H H1 → Sub B1 H1 → xs[i]? = some x → f i = some y → EvB te ((wipe σ vs).set j (some x)) H1 B1 (fun G v => S G v y)) :
    EvB (tLc (iList K tl) (gName j) t te vs) σ H B (fun G v => rTL S G v ((List.range xs.length).filterMap f)) := fun H0 e Q q => h H0 e _ fun H1 e1 => ⟨a, rfl, ⟨xs, ex_l (e.trans e1) hx⟩, fun Dl hD =>
  lc_list (xs := xs) (Cn S B H1 f Dl) ⟨hD, Ex.new hD, [], upd_same, Nat.zero_le _, All2.nil⟩ (fun i H' _ p => ex_l ((e.trans e1).trans p.2.1) hx)
    (fun i x H' hi p => ⟨hw x, cn_turn ((hB.ex e).ex e1) p (Ex.refl H') (by have := (List.getElem?_eq_some_iff.mp hi).1; omega) (ht i x H' ((e.trans e1).trans p.2.1) hi)
      fun y hf => he i x H' _ y ((e.trans e1).trans p.2.1) (by
        obtain ⟨p1, p2, acc, p3, _⟩ := p
        exact Sub.upd (((hB.ex e).ex e1).ex p2) p3) hi hf⟩)
    (fun H' p => q _ H' (e1.trans p.2.1) (p.fin ((hB.ex e).ex e1)))⟩
end
end BW
/-! More of what readings lead to: fields, methods, chains, comprehensions with any target, over ranges and over zip. -/
namespace BW
open PySem L2 Evl
section
variable {K : Frg} {σ : L2.St} {H H' B : Hp} {te ta tb tc : TE} {t u : TT} {R : Hp → V → Prop} {v x y z w : V} {r r' : R2}
theorem ev_fld {a C dx : Addr} {fs : List (Str × V)} {f : Str} (h : Ev ta σ H (.ref a)) (hH : H a = some (.ins C dx fs)) (c : Cls K C) (n : NoAttr K C f) (l : fs.lookup f = some v) : Ev (tFld K ta f) σ H v := fun H1 e Q q =>
  h H1 e _ fun H2 e2 => ⟨a, C, dx, fs, v, rfl, e2 _ _ (e _ _ hH), c, n, l, q H2 e2⟩
theorem ev_meth {a C dx : Addr} {fs : List (Str × V)} {m : Str} {sp : Sp} {dvs vs : List V} {E : XK} {tl : TA} (h : Ev ta σ H (.ref a)) (hH : H a = some (.ins C dx fs)) (l : fs.lookup m = none) (ha : EvA tl σ H vs) (hs : SpV sp (.ref a :: (vs ++ dvs)) H z) :
    Ev (tMeth C m sp dvs E ta tl) σ H z := fun H1 e Q q =>
  h H1 e _ fun H2 e2 => ⟨a, dx, fs, rfl, e2 _ _ (e _ _ hH), l, ha H2 (e.trans e2) _ fun H3 e3 => hs H3 ((e.trans e2).trans e3) _ (fun H4 e4 => q H4 ((e2.trans e3).trans e4)) E⟩
theorem evb_meth {α : Type} {S : Rep α} [Mono S] {b : α} {a C dx : Addr} {fs : List (Str × V)} {m : Str} {sp : Sp} {dvs vs : List V} {E : XK} {tl : TA} (hB : Sub B H) (h : Ev ta σ H (.ref a)) (hH : H a = some (.ins C dx fs)) (l : fs.lookup m = none) (ha : EvA tl σ H vs)
    (hs : SpN sp (.ref a :: (vs ++ dvs)) H (fun G v => S G v b)) : EvB (tMeth C m sp dvs E ta tl) σ H B (fun G v => S G v b) := fun H1 e Q q =>
  h H1 e _ fun H2 e2 => ⟨a, dx, fs, rfl, e2 _ _ (e _ _ hH), l, ha H2 (e.trans e2) _ fun H3 e3 => hs H3 ((e.trans e2).trans e3) _ (fun v H4 e4 r => q v H4 ((e2.trans e3).trans e4) (Mono.mono (new_call (((hB.ex e).ex e2).ex e3)) r)) E⟩
theorem ev_chain {k k2 : Bool} (ha : Ev ta σ H x) (hb : Ev tb σ H y) (h1 : RV r x y H (.bl k)) (hc : Ev tc σ H w) (h2 : RV r' y w H (.bl k2)) : Ev (tChain r r' ta tb tc) σ H (.bl (k && k2)) := fun H1 e Q q =>
  ha H1 e _ fun H2 e2 => hb H2 (e.trans e2) _ fun H3 e3 => h1 H3 ((e.trans e2).trans e3) _ fun H4 e4 => ⟨k, rfl, by
    cases k with
    | true =>
      rw [if_pos rfl]
      exact hc H4 (((e.trans e2).trans e3).trans e4) _ fun H5 e5 => h2 H5 ((((e.trans e2).trans e3).trans e4).trans e5) _ fun H6 e6 => q H6 ((((e2.trans e3).trans e4).trans e5).trans e6)
    | false =>
      rw [if_neg (by decide)]
      exact q H4 ((e2.trans e3).trans e4)⟩
theorem et_bl {b : Bool} (h : Ev te σ H (.bl b)) : EvT (tB te) σ H b := et_B h
theorem rv_isN : RV (fun x y H Q => y = .non ∧ Q (.bl (decide (x = .non))) H) x .non H (.bl (decide (x = .non))) := fun H1 _ _ q => ⟨rfl, q H1 (Ex.refl H1)⟩
theorem rv_notN : RV (fun x y H Q => y = .non ∧ Q (.bl (!decide (x = .non))) H) x .non H (.bl (!decide (x = .non))) := fun H1 _ _ q => ⟨rfl, q H1 (Ex.refl H1)⟩
theorem rv_notB {a b : Bool} : RV rNotB (.bl a) (.bl b) H (.bl (!decide (a = b))) := fun H1 _ _ q => ⟨a, b, rfl, rfl, q H1 (Ex.refl H1)⟩
theorem rv_cat {a b : Addr} : RV (fun x y H Q => ∃ i j, x = .str i ∧ y = .str j ∧ i.length + j.length ≤ sizeLine ∧ Q (.str (i ++ j)) H) x y H z → RV (fun x y H Q => ∃ i j, x = .str i ∧ y = .str j ∧ i.length + j.length ≤ sizeLine ∧ Q (.str (i ++ j)) H) x y H z := id
theorem rv_cats {a b : Str} (h : a.length + b.length ≤ 1000) : RV (fun x y H Q => ∃ i j, x = .str i ∧ y = .str j ∧ i.length + j.length ≤ sizeLine ∧ Q (.str (i ++ j)) H) (.str a) (.str b) H (.str (a ++ b)) := fun H1 _ _ q => ⟨a, b, rfl, rfl, sz_of (by omega), q H1 (Ex.refl H1)⟩
theorem rv_eqD {a b : V} {d e : PyData} (h1 : ∀ H1, Ex H H1 → Dp K H1 a d) (h2 : ∀ H1, Ex H H1 → Dp K H1 b e) (s1 : SeqAt.shaped d = true) (s2 : SeqAt.shaped e = true) : RV (rEqD K) a b H (.bl (PyData.eqv d e)) := fun H1 g _ q => ⟨d, e, h1 H1 g, h2 H1 g, s1, s2, q H1 (Ex.refl H1)⟩
theorem rv_neD {a b : V} {d e : PyData} (h1 : ∀ H1, Ex H H1 → Dp K H1 a d) (h2 : ∀ H1, Ex H H1 → Dp K H1 b e) (s1 : SeqAt.shaped d = true) (s2 : SeqAt.shaped e = true) : RV (rNeD K) a b H (.bl (!PyData.eqv d e)) := fun H1 g _ q => ⟨d, e, h1 H1 g, h2 H1 g, s1, s2, q H1 (Ex.refl H1)⟩
/-- built-ins on one new list, on values -/
theorem evb_cb {rr : List V → Hp → VK → Prop} {R' : Hp → V → Prop} (h : EvB te σ H B R) (hr : ∀ v H1, Ex H H1 → R (New B H1) v → RC rr [v] H1 z) : Ev (tCB rr (tCons te tNil)) σ H z := fun H1 e Q q =>
  h H1 e _ fun v H2 e2 rv => hr v H2 (e.trans e2) rv H2 (Ex.refl H2) Q fun H3 e3 => q H3 (e2.trans e3)
theorem rc_len {a : Addr} {xs : List V} (h : SqL K H a xs) : RC (rLenS K) [.ref a] H (.int (xs.length : Int)) := fun H1 e Q q => ⟨a, xs, rfl, .inl (ex_l e h), q H1 (Ex.refl H1)⟩
theorem rc_lenT {a : Addr} {xs : List V} (h : SqT K H a xs) : RC (rLenS K) [.ref a] H (.int (xs.length : Int)) := fun H1 e Q q => ⟨a, xs, rfl, .inr (ex_t e h), q H1 (Ex.refl H1)⟩
theorem rc_sum {a : Addr} {ns : List Int} (h : SqL K H a (ns.map V.int)) : RC (rSum K) [.ref a] H (.int ns.sum) := fun H1 e Q q => ⟨a, ns, rfl, ex_l e h, q H1 (Ex.refl H1)⟩
theorem rc_all {a : Addr} {bs : List Bool} (h : SqL K H a (bs.map V.bl)) : RC (rAll K) [.ref a] H (.bl (bs.all id)) := fun H1 e Q q => ⟨a, bs, rfl, ex_l e h, q H1 (Ex.refl H1)⟩
theorem rc_max2 {i j : Int} : RC (fun xs H Q => ∃ i j, xs = [.int i, .int j] ∧ Q (.int (if j > i then j else i)) H) [.int i, .int j] H (.int (if j > i then j else i)) := fun H1 _ Q q => ⟨i, j, rfl, q H1 (Ex.refl H1)⟩
theorem rc_min2 {i j : Int} : RC (fun xs H Q => ∃ i j, xs = [.int i, .int j] ∧ Q (.int (if j < i then j else i)) H) [.int i, .int j] H (.int (if j < i then j else i)) := fun H1 _ Q q => ⟨i, j, rfl, q H1 (Ex.refl H1)⟩
theorem rc_isi {x c : V} {t u : Value} {b : Bool} (h1 : ClsV c u) (h2 : ∀ H1, Ex H H1 → TyX K H1 x t) (h3 : PySem.W.kitOne K t u = some b) : RC (rIsi K) [x, c] H (.bl b) := fun H1 e Q q => ⟨x, c, t, u, b, rfl, h1, h2 H1 e, h3, q H1 (Ex.refl H1)⟩
/-- a list made, then a call upon it -/
theorem evl_cb {rr : List V → Hp → VK → Prop} {xs : List V} (h : EvL te σ H xs) (hr : ∀ p H1, H1 p = some (.lst xs) → RC rr [.ref p] H1 z) : Ev (tCB rr (tCons te tNil)) σ H z := fun H1 e Q q =>
  h H1 e _ fun p H2 hp e2 h2 => hr p H2 h2 H2 (Ex.refl H2) Q fun H3 e3 => q H3 (e2.trans e3)
end
/-! ### any target -/
/-- at x the target leads to the slots σ2 -/
def Tg (g : TG) (x : V) (σ : L2.St) (H : Hp) (σ2 : L2.St) : Prop := ∀ H1, Ex H H1 → ∀ Q : L2.St → Hp → Prop, Q σ2 H1 → g x σ H1 Q
theorem tg_name {j : Nat} {x : V} {σ : L2.St} {H : Hp} : Tg (gName j) x σ H (σ.set j (some x)) := fun H1 _ Q q => q
theorem tg_2 {K : Frg} {i j : Nat} {a : Addr} {x y : V} {σ : L2.St} {H : Hp} (h : SqT K H a [x, y]) : Tg (gTup K 2 (gCons (gName i) (gCons (gName j) gNil))) (.ref a) σ H ((σ.set i (some x)).set j (some y)) := fun H1 e Q q =>
  ⟨a, _, rfl, ex_t e h, rfl, _, _, rfl, _, _, rfl, rfl, q⟩
theorem tg_3 {K : Frg} {i j k : Nat} {a : Addr} {x y z : V} {σ : L2.St} {H : Hp} (h : SqT K H a [x, y, z]) : Tg (gTup K 3 (gCons (gName i) (gCons (gName j) (gCons (gName k) gNil)))) (.ref a) σ H (((σ.set i (some x)).set j (some y)).set k (some z)) := fun H1 e Q q =>
  ⟨a, _, rfl, ex_t e h, rfl, _, _, rfl, _, _, rfl, _, _, rfl, rfl, q⟩
theorem tg_4 {K : Frg} {i j k l : Nat} {a : Addr} {x y z w : V} {σ : L2.St} {H : Hp} (h : SqT K H a [x, y, z, w]) : Tg (gTup K 4 (gCons (gName i) (gCons (gName j) (gCons (gName k) (gCons (gName l) gNil))))) (.ref a) σ H ((((σ.set i (some x)).set j (some y)).set k (some z)).set l (some w)) := fun H1 e Q q =>
  ⟨a, _, rfl, ex_t e h, rfl, _, _, rfl, _, _, rfl, _, _, rfl, _, _, rfl, rfl, q⟩
section
variable {α : Type} {S : Rep α} [Mono S] {K : Frg} {σ : L2.St} {H B : Hp} {te : TE} {t : TT} {g : TG}
/-- over a list, any target, the items new -/
theorem evb_lcG {a : Addr} {xs : List V} {tl : TE} {vs : List Nat} (f : Nat → Option α) (σi : Nat → L2.St) (hB : Sub B H) (h : Ev tl σ H (.ref a)) (hx : SqL K H a xs) (hz : xs.length ≤ 40000) (hw : ∀ i, wipe (σi i) vs = wipe σ vs)
    (hg : ∀ (i : Nat) (x : V), xs[i]? = some x → Tg g x (wipe σ vs) H (σi i)) (ht : ∀ (i : Nat) (x : V) H1, Ex H H1 → xs[i]? = some x → EvT t (σi i) H1 (f i).isSome)
    (he : ∀ (i : Nat) (x : V) H1 B1 y, Ex H H1 → Sub B1 H1 → xs[i]? = some x → f i = some y → EvB te (σi i) H1 B1 (fun G v => S G v y)) :
    EvB (tLc (iList K tl) g t te vs) σ H B (fun G v => rTL S G v ((List.range xs.length).filterMap f)) := fun H0 e Q q => h H0 e _ fun H1 e1 => ⟨a, rfl, ⟨xs, ex_l (e.trans e1) hx⟩, fun Dl hD =>
  lc_list (xs := xs) (Cn S B H1 f Dl) ⟨hD, Ex.new hD, [], upd_same, Nat.zero_le _, All2.nil⟩ (fun i H' _ p => ex_l ((e.trans e1).trans p.2.1) hx)
    (fun i x H' hi p => hg i x hi H' ((e.trans e1).trans p.2.1) _ ⟨hw i, cn_turn ((hB.ex e).ex e1) p (Ex.refl H') (by have := (List.getElem?_eq_some_iff.mp hi).1; omega) (ht i x H' ((e.trans e1).trans p.2.1) hi)
      fun y hf => he i x H' _ y ((e.trans e1).trans p.2.1) (by
        obtain ⟨p1, p2, acc, p3, _⟩ := p
        exact Sub.upd (((hB.ex e).ex e1).ex p2) p3) hi hf⟩)
    (fun H' p => q _ H' (e1.trans p.2.1) (p.fin ((hB.ex e).ex e1)))⟩
/-- .. the items values that are known -/
theorem el_lcG {a : Addr} {xs : List V} {tl : TE} {vs : List Nat} (f : Nat → Bool) (v : Nat → V) (σi : Nat → L2.St) (h : Ev tl σ H (.ref a)) (hx : SqL K H a xs) (hz : xs.length ≤ 40000) (hw : ∀ i, wipe (σi i) vs = wipe σ vs)
    (hg : ∀ (i : Nat) (x : V), xs[i]? = some x → Tg g x (wipe σ vs) H (σi i)) (ht : ∀ (i : Nat) (x : V) H1, Ex H H1 → xs[i]? = some x → EvT t (σi i) H1 (f i))
    (he : ∀ (i : Nat) (x : V) H1, Ex H H1 → xs[i]? = some x → f i = true → Ev te (σi i) H1 (v i)) :
    EvL (tLc (iList K tl) g t te vs) σ H (given xs.length f v) := fun H0 e Q q => h H0 e _ fun H1 e1 => ⟨a, rfl, ⟨xs, ex_l (e.trans e1) hx⟩, fun Dl hD =>
  lc_list (xs := xs) (Cw H1 f v Dl) ⟨hD, Ex.new hD, upd_same⟩ (fun i H' _ p => ex_l ((e.trans e1).trans p.2.1) hx)
    (fun i x H' hi p => hg i x hi H' ((e.trans e1).trans p.2.1) _ ⟨hw i, cw_turn p (by have := (List.getElem?_eq_some_iff.mp hi).1; omega) (ht i x H1 (e.trans e1) hi) (fun hf => he i x H1 (e.trans e1) hi hf)⟩)
    (fun H' p => q Dl H' (fresh_back e1 p.1) (e1.trans p.2.1) p.2.2)⟩
/-- over a range, the items new -/
theorem evb_lcR {ta : TA} {j : Nat} {vs : List Nat} {n : Nat} (f : Nat → Option α) (hB : Sub B H) (h : EvA ta σ H [.int (n : Int)]) (hz : n ≤ 40000) (hw : ∀ x, wipe ((wipe σ vs).set j (some x)) vs = wipe σ vs)
    (ht : ∀ (i : Nat) H1, Ex H H1 → i < n → EvT t ((wipe σ vs).set j (some (.int (i : Int)))) H1 (f i).isSome)
    (he : ∀ (i : Nat) H1 B1 y, Ex H H1 → Sub B1 H1 → i < n → f i = some y → EvB te ((wipe σ vs).set j (some (.int (i : Int)))) H1 B1 (fun G v => S G v y)) :
    EvB (tLc (iRng1 ta) (gName j) t te vs) σ H B (fun G v => rTL S G v ((List.range n).filterMap f)) := fun H0 e Q q => h H0 e _ fun H1 e1 => ⟨n, rfl, by omega, by omega, fun Dl hD =>
  lc_range (lo := 0) (n := (n : Int).toNat) (Cn S B H1 f Dl) ⟨hD, Ex.new hD, [], upd_same, Nat.zero_le _, All2.nil⟩
    (fun i H' hi p => by
      have e0 : (0 : Int) + (i : Int) = (i : Int) := Int.zero_add _
      rw [e0]
      exact ⟨hw _, cn_turn ((hB.ex e).ex e1) p (Ex.refl H') (by omega) (ht i H' ((e.trans e1).trans p.2.1) (by omega))
        fun y hf => he i H' _ y ((e.trans e1).trans p.2.1) (by
          obtain ⟨p1, p2, acc, p3, _⟩ := p
          exact Sub.upd (((hB.ex e).ex e1).ex p2) p3) (by omega) hf⟩)
    (fun H' p => by
      rw [Int.toNat_natCast] at p
      exact q _ H' (e1.trans p.2.1) (p.fin ((hB.ex e).ex e1)))⟩
/-- over zip of two lists, the items new -/
theorem evb_lcZ {ta : TA} {a b : Addr} {xs ys : List V} {i0 j0 : Nat} {vs : List Nat} (f : Nat → Option α) (hB : Sub B H) (h : EvA ta σ H [.ref a, .ref b]) (hx : SqL K H a xs) (hy : SqL K H b ys) (hl : xs.length = ys.length) (hz : xs.length ≤ 40000)
    (hw : ∀ x y, wipe (((wipe σ vs).set i0 (some x)).set j0 (some y)) vs = wipe σ vs)
    (ht : ∀ (i : Nat) (x y : V) H1, Ex H H1 → xs[i]? = some x → ys[i]? = some y → EvT t (((wipe σ vs).set i0 (some x)).set j0 (some y)) H1 (f i).isSome)
    (he : ∀ (i : Nat) (x y : V) H1 B1 c, Ex H H1 → Sub B1 H1 → xs[i]? = some x → ys[i]? = some y → f i = some c → EvB te (((wipe σ vs).set i0 (some x)).set j0 (some y)) H1 B1 (fun G v => S G v c)) :
    EvB (tLc (iZip K ta) (gTup K 2 (gCons (gName i0) (gCons (gName j0) gNil))) t te vs) σ H B (fun G v => rTL S G v ((List.range xs.length).filterMap f)) := fun H0 e Q q => h H0 e _ fun H1 e1 => ⟨a, b, xs, ys, rfl, ex_l (e.trans e1) hx, ex_l (e.trans e1) hy, fun Dl hD =>
  ⟨fun i m H' => Cn S B H1 f Dl i H' ∧ i + m = xs.length, ⟨xs.length, ⟨hD, Ex.new hD, [], upd_same, Nat.zero_le _, All2.nil⟩, by omega⟩, fun i m H' p => by
    obtain ⟨p, hm⟩ := p
    have eH := (e.trans e1).trans p.2.1
    have sx := ex_l eH hx
    have sy := ex_l eH hy
    by_cases hi : i < xs.length
    · refine .inr ⟨⟨xs, ys, _, _, sx, sy, List.getElem?_eq_getElem hi, List.getElem?_eq_getElem (hl ▸ hi)⟩, fun H2 => Cn S B H1 f Dl (i + 1) H2, fun H2 c => ⟨xs.length - (i + 1), by omega, c, by omega⟩, ?_⟩
      rintro v H2 ⟨T, x, y, rfl, hT, rfl, gx, gy⟩
      have kx := gx xs sx
      have ky := gy ys sy
      have eT : Ex H' (upd H' T (.tup [x, y])) := Ex.new hT
      refine tg_2 (st_of upd_same) _ (Ex.refl _) _ ⟨hw _ _, ?_⟩
      refine cn_turn ((hB.ex e).ex e1) p eT (by omega) (ht i x y _ (eH.trans eT) kx ky) fun c hf => he i x y _ _ c (eH.trans eT) ?_ kx ky hf
      obtain ⟨p1, p2, acc, p3, _⟩ := p
      exact Sub.upd ((((hB.ex e).ex e1).ex p2).ex eT) (eT _ _ p3)
    · have hi' : i = xs.length := by omega
      subst hi'
      exact .inl ⟨⟨xs, ys, sx, sy, .inl (Nat.le_refl _)⟩, q _ H' (e1.trans p.2.1) (p.fin ((hB.ex e).ex e1))⟩⟩⟩
end
end BW
/-! More helpers: lists put together, items by place, moments. -/
namespace BW
open PySem L2 Evl
theorem el_cat {σ : L2.St} {H : Hp} {ta tb : TE} {xs ys : List V} (ha : EvL ta σ H xs) (hb : EvL tb σ H ys) (hl : xs.length + ys.length ≤ 100000) : EvL (tOp rCat ta tb) σ H (xs ++ ys) := fun H1 e Q q =>
  ha H1 e _ fun p H2 hp e2 h2 => hb H2 (e.trans e2) _ fun r H3 hr e3 h3 => ⟨p, r, xs, ys, rfl, rfl, e3 _ _ h2, h3, sz_of hl, fun d hd => q d _ (fresh_back (e2.trans e3) hd) ((e2.trans e3).trans (Ex.new hd)) upd_same⟩
theorem given_all {n : Nat} {f : Nat → Bool} {v : Nat → V} (h : ∀ i, i < n → f i = true) : given n f v = (List.range n).map v := by
  unfold given
  rw [List.filter_eq_self.mpr fun i hi => h i (List.mem_range.mp hi)]
theorem range_map {α β : Type} (l : List α) (f : Nat → β) (g : α → β) (h : ∀ i x, l[i]? = some x → f i = g x) : (List.range l.length).map f = l.map g := by
  apply List.ext_getElem?
  intro i
  rw [List.getElem?_map, List.getElem?_map]
  by_cases q : i < l.length
  · rw [List.getElem?_range q, List.getElem?_eq_getElem q]
    show some _ = some _
    rw [h i _ (List.getElem?_eq_getElem q)]
  · rw [List.getElem?_eq_none (by simp; omega), List.getElem?_eq_none (by omega)]
    rfl
theorem range_filterMap {α β : Type} (l : List α) (f : Nat → Option β) (g : α → Option β) (h : ∀ i x, l[i]? = some x → f i = g x) : (List.range l.length).filterMap f = l.filterMap g := by
  have a : (List.range l.length).filterMap f = ((List.range l.length).map f).filterMap id := by rw [List.filterMap_map]; rfl
  have b : l.filterMap g = (l.map g).filterMap id := by rw [List.filterMap_map]; rfl
  rw [a, b, range_map l f g h]
theorem stt_at {bk : Bk} {i : Nat} {s : Sp3} (h : bk[i]? = some s) : stt bk i = s := by
  unfold stt
  rw [List.getD_eq_getElem?_getD, h]
  rfl
/-- the moments of a book -/
structure IsMs (bk : Bk) (ms : List Int) : Prop where
  inc : Inc ms
  mem : ∀ k, k ∈ ms ↔ k ∈ bk.map (·.1) ++ bk.map (·.2.1)
theorem inc_uniq : ∀ {xs ys : List Int}, Inc xs → Inc ys → (∀ k, k ∈ xs ↔ k ∈ ys) → xs = ys
  | [], [], _, _, _ => rfl
  | [], y :: ys, _, _, h => absurd ((h y).mpr List.mem_cons_self) (by simp)
  | x :: xs, [], _, _, h => absurd ((h x).mp List.mem_cons_self) (by simp)
  | x :: xs, y :: ys, hx, hy, h => by
    have ax := List.pairwise_cons.mp hx
    have ay := List.pairwise_cons.mp hy
    have e : x = y := by
      rcases List.mem_cons.mp ((h x).mp List.mem_cons_self) with e | m1
      · exact e
      · rcases List.mem_cons.mp ((h y).mpr List.mem_cons_self) with e | m2
        · exact e.symm
        · have := ay.1 x m1
          have := ax.1 y m2
          omega
    subst e
    rw [inc_uniq ax.2 ay.2 fun k => ?_]
    have hk := h k
    rw [List.mem_cons, List.mem_cons] at hk
    constructor
    · intro m
      rcases hk.mp (.inr m) with e | m'
      · subst e
        have := ax.1 k m
        omega
      · exact m'
    · intro m
      rcases hk.mpr (.inr m) with e | m'
      · subst e
        have := ay.1 k m
        omega
      · exact m'
theorem IsMs.uniq {bk : Bk} {ms ms' : List Int} (a : IsMs bk ms) (b : IsMs bk ms') : ms = ms' := inc_uniq a.inc b.inc fun k => (a.mem k).trans (b.mem k).symm
/-- a new list of the values vs, told in what is new -/
theorem rLst_new {K : Frg} {α : Type} {R : Rep α} {H H' : Hp} {p : Addr} {vs : List V} {xs : List α} (h0 : H p = none) (h : H' p = some (.lst vs)) (r : All2 (R (New H H')) vs xs) : rLst K R (New H H') (.ref p) xs :=
  ⟨p, vs, rfl, sq_of (by rw [new_of h0]; exact h), r⟩
/-- a list read item by item -/
theorem rLst_of {K : Frg} {α : Type} {R : Rep α} {H : Hp} {v : V} {xs : List α} (h : rLst K R H v xs) : ∃ a vs, v = .ref a ∧ SqL K H a vs ∧ vs.length = xs.length ∧ All2 (R H) vs xs := by
  obtain ⟨a, vs, h1, h2, h3⟩ := h
  exact ⟨a, vs, h1, h2, h3.1, h3⟩
/-- a call that hands back a value, a test -/
theorem et_call {K : Frg} {σ : L2.St} {H : Hp} {te : TE} {b : Bool} (h : Ev te σ H (.bl b)) : EvT (tB te) σ H b := et_B h
end BW
/-! Comprehensions over what lists stand for. -/
namespace BW
open PySem L2 Evl
section
variable {α β : Type} {R : Rep α} [Mono R] {S : Rep β} [Mono S] {K : Frg} {σ : L2.St} {H B : Hp} {te tl : TE} {t : TT} {g : TG} {vs : List Nat}
theorem filter_map_snoc {l : List α} {i : Nat} {a : α} (p : α → Bool) (h : α → V) (ha : l[i]? = some a) : ((l.take (i + 1)).filter p).map h = ((l.take i).filter p).map h ++ (if p a = true then [h a] else []) := by
  rw [List.take_add_one, ha, List.filter_append, List.map_append]
  congr 1
  show List.map h (List.filter p [a]) = _
  rw [List.filter_cons]
  split
  · rfl
  · rfl
theorem filterMap_snoc {l : List α} {i : Nat} {a : α} (F : α → Option β) (ha : l[i]? = some a) : (l.take (i + 1)).filterMap F = (l.take i).filterMap F ++ (match F a with | some b => [b] | none => []) := by
  rw [List.take_add_one, ha, List.filterMap_append]
  congr 1
  show List.filterMap F [a] = _
  cases q : F a with
  | none => simp [List.filterMap_cons, q]
  | some b => simp [List.filterMap_cons, q]
/-- the items values that are known -/
theorem el_lcT {x : V} {xs : List α} (p : α → Bool) (h : α → V) (σi : V → α → L2.St) (hs : Ev tl σ H x) (hx : rLst K R H x xs) (hz : xs.length ≤ 40000) (hw : ∀ v a, R H v a → wipe (σi v a) vs = wipe σ vs)
    (hg : ∀ v a, a ∈ xs → R H v a → Tg g v (wipe σ vs) H (σi v a)) (ht : ∀ v a H1, Ex H H1 → a ∈ xs → R H v a → EvT t (σi v a) H1 (p a))
    (he : ∀ v a H1, Ex H H1 → a ∈ xs → R H v a → p a = true → Ev te (σi v a) H1 (h a)) : EvL (tLc (iList K tl) g t te vs) σ H ((xs.filter p).map h) := by
  obtain ⟨a, ws, rfl, hl, hA⟩ := hx
  intro H0 e Q q
  refine hs H0 e _ fun H1 e1 => ⟨a, rfl, ⟨ws, ex_l (e.trans e1) hl⟩, fun Dl hD => ?_⟩
  refine lc_list (xs := ws) (fun i H' => Ex H1 H' ∧ H' Dl = some (.lst (((xs.take i).filter p).map h))) ⟨Ex.new hD, by rw [List.take_zero]; exact upd_same⟩ (fun i H' _ pp => ex_l ((e.trans e1).trans pp.1) hl) (fun i v H' hi pp => ?_) fun H' pp => ?_
  · obtain ⟨y, hy, r⟩ := hA.of_v hi
    have hm := List.mem_of_getElem? hy
    have eH := (e.trans e1).trans pp.1
    refine hg v y hm r H' eH _ ⟨hw v y r, ht v y H' eH hm r H' (Ex.refl _) _ fun H2 e2 => ?_⟩
    have hi2 : i < xs.length := (List.getElem?_eq_some_iff.mp hy).1
    cases hp : p y with
    | true =>
      show te _ H2 _
      refine he v y H2 (eH.trans e2) hm r hp H2 (Ex.refl _) _ fun H3 e3 => ⟨_, e3 _ _ (e2 _ _ pp.2), ?_, Ex.mut ((pp.1.trans e2).trans e3) hD, ?_⟩
      · have := List.length_filter_le p (xs.take i)
        rw [List.length_take] at this
        rw [List.length_map]
        exact sz_lt (by omega)
      · rw [filter_map_snoc p h hy, if_pos hp]
        exact upd_same
    | false =>
      refine ⟨pp.1.trans e2, ?_⟩
      rw [filter_map_snoc p h hy, if_neg (by rw [hp]; decide), List.append_nil]
      exact e2 _ _ pp.2
  · have hlen : ws.length = xs.length := hA.1
    rw [hlen, List.take_length] at pp
    exact q Dl H' (fresh_back e1 hD) (e1.trans pp.1) pp.2
/-- the items new -/
theorem evb_lcT {x : V} {xs : List α} (F : α → Option β) (σi : V → α → L2.St) (hB : Sub B H) (hs : Ev tl σ H x) (hx : rLst K R H x xs) (hz : xs.length ≤ 40000) (hw : ∀ v a, R H v a → wipe (σi v a) vs = wipe σ vs)
    (hg : ∀ v a, a ∈ xs → R H v a → Tg g v (wipe σ vs) H (σi v a)) (ht : ∀ v a H1, Ex H H1 → a ∈ xs → R H v a → EvT t (σi v a) H1 (F a).isSome)
    (he : ∀ v a H1 B1 b, Ex H H1 → Sub B1 H1 → a ∈ xs → R H v a → F a = some b → EvB te (σi v a) H1 B1 (fun G y => S G y b)) : EvB (tLc (iList K tl) g t te vs) σ H B (fun G y => rTL S G y (xs.filterMap F)) := by
  obtain ⟨a, ws, rfl, hl, hA⟩ := hx
  intro H0 e Q q
  refine hs H0 e _ fun H1 e1 => ⟨a, rfl, ⟨ws, ex_l (e.trans e1) hl⟩, fun Dl hD => ?_⟩
  have hB1 : Sub B H1 := (hB.ex e).ex e1
  refine lc_list (xs := ws) (fun i H' => Ex H1 H' ∧ ∃ acc, H' Dl = some (.lst acc) ∧ acc.length ≤ i ∧ All2 (S (New (upd B Dl (.lst [])) H')) acc ((xs.take i).filterMap F)) ⟨Ex.new hD, [], upd_same, Nat.zero_le _, All2.nil⟩ (fun i H' _ pp => ex_l ((e.trans e1).trans pp.1) hl) (fun i v H' hi pp => ?_) fun H' pp => ?_
  · obtain ⟨y, hy, r⟩ := hA.of_v hi
    obtain ⟨p1, acc, p2, p3, p4⟩ := pp
    have hm := List.mem_of_getElem? hy
    have eH := (e.trans e1).trans p1
    refine hg v y hm r H' eH _ ⟨hw v y r, ht v y H' eH hm r H' (Ex.refl _) _ fun H2 e2 => ?_⟩
    have hi2 : i < xs.length := (List.getElem?_eq_some_iff.mp hy).1
    cases hp : F y with
    | some b =>
      show te _ H2 _
      refine he v y H2 (upd B Dl (.lst [])) b (eH.trans e2) (Sub.upd ((hB1.ex p1).ex e2) (e2 _ _ p2)) hm r hp H2 (Ex.refl _) _ fun z H3 e3 rz => ⟨acc, e3 _ _ (e2 _ _ p2), sz_lt (by omega), Ex.mut ((p1.trans e2).trans e3) hD, acc ++ [z], upd_same, by simp; omega, ?_⟩
      rw [filterMap_snoc F hy, hp]
      have e5 : New (upd B Dl (.lst [])) (upd H3 Dl (.lst (acc ++ [z]))) = New (upd B Dl (.lst [])) H3 := new_mut upd_same
      rw [e5]
      exact (p4.mono fun _ _ => Mono.mono (new_mono (e2.trans e3))).snoc rz
    | none =>
      refine ⟨p1.trans e2, acc, e2 _ _ p2, by omega, ?_⟩
      rw [filterMap_snoc F hy, hp]
      show All2 _ _ (_ ++ [])
      rw [List.append_nil]
      exact p4.mono fun _ _ => Mono.mono (new_mono e2)
  · obtain ⟨p1, acc, p2, p3, p4⟩ := pp
    have hlen : ws.length = xs.length := hA.1
    rw [hlen, List.take_length] at p4
    have h0 : B Dl = none := hB1 _ hD
    refine q _ H' (e1.trans p1) ⟨Dl, acc, rfl, (by rw [new_of h0]; exact p2), p4.mono fun _ _ => Mono.mono (new_base fun b hb => ?_)⟩
    by_cases eb : b = Dl
    · rw [eb]; exact h0
    · rw [upd_ne eb] at hb; exact hb
end
end BW
/-! Items of lists by place; sorted(set(..)). -/
namespace BW
open PySem L2 Evl
section
variable {α : Type} {R : Rep α} {K : Frg} {σ : L2.St} {H : Hp} {ta tb te : TE} {w : World}
theorem lst_at {x : V} {xs : List α} {i : Nat} {b : α} (hx : rLst K R H x xs) (hi : xs[i]? = some b) : ∃ a vs y, x = .ref a ∧ SqL K H a vs ∧ vs[i]? = some y ∧ R H y b := by
  obtain ⟨a, vs, rfl, hl, hA⟩ := hx
  obtain ⟨y, hy, r⟩ := hA.at_ hi
  exact ⟨a, vs, y, rfl, hl, hy, r⟩
theorem lst_ix {x : V} {xs : List α} {i : Nat} {b : α} (hx : rLst K R H x xs) (ha : Ev ta σ H x) (hb : Ev tb σ H (.int (i : Int))) (hi : xs[i]? = some b) : ∃ y, R H y b ∧ Ev (tOp (rIxL K) ta tb) σ H y := by
  obtain ⟨a, vs, y, rfl, hl, hy, r⟩ := lst_at hx hi
  exact ⟨y, r, ev_op ha hb (rv_ixL hl (atI_nat hy))⟩
theorem lst_len {x : V} {xs : List α} (hx : rLst K R H x xs) (h : Ev te σ H x) : Ev (tCB (rLenS K) (tCons te tNil)) σ H (.int (xs.length : Int)) := by
  obtain ⟨a, vs, rfl, hl, hA⟩ := hx
  have := ev_cb (ea_cons h ea_nil) (rc_len hl)
  rwa [hA.1] at this
theorem bk_ix {bk : Bk} {x : V} {i : Nat} (hx : rLst K (rStt K) H x bk) (ha : Ev ta σ H x) (hb : Ev tb σ H (.int (i : Int))) (hi : i < bk.length) : ∃ y, rStt K H y (stt bk i) ∧ Ev (tOp (rIxL K) ta tb) σ H y := by
  obtain ⟨y, r, h⟩ := lst_ix hx ha hb (List.getElem?_eq_getElem hi)
  rw [← stt_at (List.getElem?_eq_getElem hi)] at r
  exact ⟨y, r, h⟩
/-- sorted(set(xs)) -/
theorem run_sorted {a : Addr} {ns : List Int} {Q : VK} (hl : SqL K H a (ns.map V.int)) (few : ns.length ≤ 60) (q : ∀ p ms H2, Ex H H2 → H p = none → H2 p = some (.lst (ms.map V.int)) → Inc ms → (∀ k, k ∈ ms ↔ k ∈ ns) → ms.length ≤ ns.length → Q (.ref p) H2) :
    BRu.rSetI w K [.ref a] H (fun x H1 => rSortedSet w [x] H1 Q) := by
  refine ⟨a, ns, rfl, hl, few, fun s c hs hc => ⟨s, _, c, rfl, upd_same, by omega, fun ms p inc mem len hp => ?_⟩⟩
  have hp0 : H p = none := fresh_back (Ex.new hs) hp
  refine q p ms _ ((Ex.new hs).trans (Ex.new hp)) hp0 upd_same inc (fun k => ?_) (by omega)
  rw [mem k]
  exact decide_eq_true_iff
theorem ev_sorted {a : Addr} {ns : List Int} (h : Ev te σ H (.ref a)) (hl : SqL K H a (ns.map V.int)) (few : ns.length ≤ 60) {H1 : Hp} (e : Ex H H1) {Q : VK}
    (q : ∀ p ms H2, Ex H1 H2 → H1 p = none → H2 p = some (.lst (ms.map V.int)) → Inc ms → (∀ k, k ∈ ms ↔ k ∈ ns) → ms.length ≤ ns.length → Q (.ref p) H2) :
    tCB (rSortedSet w) (tCons (tCB (BRu.rSetI w K) (tCons te tNil)) tNil) σ H1 Q :=
  h H1 e _ fun H2 e2 => run_sorted (ex_l (e.trans e2) hl) few fun p ms H3 e3 hp h3 i m l => q p ms H3 (e2.trans e3) (fresh_back e2 hp) h3 i m l
theorem el_sorted {ns : List Int} (h : EvL te σ H (ns.map V.int)) (few : ns.length ≤ 60) {H1 : Hp} (e : Ex H H1) {Q : VK}
    (q : ∀ p ms H2, Ex H1 H2 → H1 p = none → H2 p = some (.lst (ms.map V.int)) → Inc ms → (∀ k, k ∈ ms ↔ k ∈ ns) → ms.length ≤ ns.length → Q (.ref p) H2) :
    tCB (rSortedSet w) (tCons (tCB (BRu.rSetI w K) (tCons te tNil)) tNil) σ H1 Q :=
  h H1 e _ fun a H2 ha e2 h2 => run_sorted (sq_of h2) few fun p ms H3 e3 hp h3 i m l => q p ms H3 (e2.trans e3) (fresh_back e2 hp) h3 i m l
end
/-! ### the loads, one moment more -/
def lastL (f : Int → Nat) (l : Int) (ms : List Int) : Int := match ms.getLast? with | some m => (f m : Int) | none => l
theorem lastL_snoc (f : Int → Nat) (l : Int) (ms : List Int) (m : Int) : lastL f l (ms ++ [m]) = (f m : Int) := by
  unfold lastL
  rw [List.getLast?_append]
  rfl
theorem loadsL_snoc (f : Int → Nat) (m : Int) : ∀ (ms : List Int) (l : Int), loadsL f l (ms ++ [m]) = loadsL f l ms ++ (if (f m : Int) ≠ lastL f l ms then [(m, (f m : Int))] else [])
  | [], l => by
    show (if (f m : Int) ≠ l then [(m, (f m : Int))] else []) ++ [] = [] ++ (if (f m : Int) ≠ lastL f l [] then _ else _)
    rw [List.append_nil, List.nil_append]
    rfl
  | k :: ms, l => by
    show (if (f k : Int) ≠ l then [(k, (f k : Int))] else []) ++ loadsL f (f k) (ms ++ [m]) = ((if (f k : Int) ≠ l then [(k, (f k : Int))] else []) ++ loadsL f (f k) ms) ++ _
    rw [loadsL_snoc f m ms (f k), List.append_assoc]
    congr 2
    cases ms with
    | nil => rfl
    | cons a r =>
      have : lastL f l (k :: a :: r) = lastL f (f k) (a :: r) := by
        unfold lastL
        rw [List.getLast?_cons_cons, List.getLast?_eq_some_getLast (List.cons_ne_nil a r)]
      rw [this]
theorem ms_load_mem {bk : Bk} {c : List Nat} {ms : List Int} (h : ∀ k, k ∈ ms ↔ k ∈ c.map (fun i => (stt bk i).1) ++ c.map (fun i => (stt bk i).2.1)) : ∀ i ∈ c, (stt bk i).1 ∈ ms := fun i hi =>
  (h _).mpr (List.mem_append_left _ (List.mem_map.mpr ⟨i, hi, rfl⟩))
end BW
/-! The rules, the written part named. -/
namespace BW
open PySem L2 Evl
section
variable {X : Cx} {w : World}
theorem kIxL (K : Frg) (h : X.K = K := by rfl) : IxR X (rIxL K) := by subst h; exact ix_list
theorem kIxT (K : Frg) (h : X.K = K := by rfl) : IxR X (rIxT K) := by subst h; exact ix_tup
theorem kLen (K : Frg) (h : X.K = K := by rfl) : CallR X (.builtin "len") (rLenS K) := by subst h; exact call_len_seq
theorem kSum (K : Frg) (hc : X.calm = true) (h : X.K = K := by rfl) : CallR X (.builtin "sum") (rSum K) := by subst h; exact cr_sum hc
theorem kAll (K : Frg) (hc : X.calm = true) (h : X.K = K := by rfl) : CallR X (.builtin "all") (rAll K) := by subst h; exact cr_all hc
theorem kMax (K : Frg) (hc : X.calm = true) (h : X.K = K := by rfl) : CallR X (.builtin "max") (rMax K) := by subst h; exact cr_max hc
theorem kIsi (K : Frg) (h : X.K = K := by rfl) : CallR X (.builtin "isinstance") (rIsi K) := by subst h; exact call_isi
theorem kListOf (K : Frg) (h : X.K = K := by rfl) : CallR X (.type "list") (rListS K) := by subst h; exact call_list_of
theorem kSrtD (K : Frg) (hu : X.A.units + 64 < cLine) (h : X.K = K := by rfl) : CallR X (.builtin "sorted") (BRu.rSrtD K) := by subst h; exact BRu.cr_srtD hu
theorem kMaxDf (K : Frg) (hc : X.calm = true) (hu : X.A.units + 64 < cLine) (h : X.K = K := by rfl) : CallRK X (.builtin "max") [Str.ofString "default"] (BRu.rMaxD K) := by subst h; exact BRu.cr_maxDf hc hu
theorem kSetI (w : World) (K : Frg) (hc : X.calm = true) (h : X.K = K := by rfl) (hw : X.w = w := by rfl) : CallR X (.type "set") (BRu.rSetI w K) := by subst h; subst hw; exact BRu.cr_setI hc
theorem kSortedSet (w : World) (hc : X.calm = true) (hw : X.w = w := by rfl) : CallR X (.builtin "sorted") (rSortedSet w) := by subst hw; exact cr_sortedSet hc
theorem kSortedRev (K : Frg) (b : Bool) (h : X.K = K := by rfl) : CallRK X (.builtin "sorted") [Str.ofString "reverse"] (rSortedKw K b [.bl b]) := by subst h; exact cr_sortedRev
theorem kSlL (K : Frg) (h : X.K = K := by rfl) : SlR X (rSlL K) := by subst h; exact sl_list
theorem kSlT (K : Frg) (h : X.K = K := by rfl) : SlR X (rSlT K) := by subst h; exact sl_tup
theorem kEqD (K : Frg) (hu : X.A.units + 64 < cLine) (h : X.K = K := by rfl) : OpR X (compareOp .Eq) (rEqD K) := by subst h; exact op_eqD hu
theorem kNeD (K : Frg) (hu : X.A.units + 64 < cLine) (h : X.K = K := by rfl) : OpR X (compareOp .NotEq) (rNeD K) := by subst h; exact op_neD hu
theorem kPiL {tg l : Expr} {tl : TE} (K : Frg) (p : PE X l tl) (h : X.K = K := by rfl) : PI X tg l (iList K tl) := by subst h; exact pi_list p
theorem kPiZ {tg l : Expr} {ta : TA} (K : Frg) (p : PI X tg l (iZip X.K ta)) (h : X.K = K := by rfl) : PI X tg l (iZip K ta) := by subst h; exact p
theorem kPiE {tg l : Expr} {ta : TA} (K : Frg) (p : PI X tg l (iEnum X.K ta)) (h : X.K = K := by rfl) : PI X tg l (iEnum K ta) := by subst h; exact p
theorem kPgT {tg : Expr} {n : Nat} {t : TGs} (K : Frg) (p : PG X tg (gTup X.K n t)) (h : X.K = K := by rfl) : PG X tg (gTup K n t) := by subst h; exact p
theorem kFld {e : Expr} {f : Str} {pos : Pos} {ta : TE} (K : Frg) (p : PE X e ta) (q : attributeBase e f X.env (eval e X.env) = eval e X.env) (h : X.K = K := by rfl) : PE X (.Attribute e f pos) (tFld K ta f) := by subst h; exact pe_fld p q
theorem kBM {T : String} {r : V → List V → Hp → VK → Prop} {to : TE} {t : TA} {c : Expr} (K : Frg) (p : PE X c (tBM X.K T r to t)) (h : X.K = K := by rfl) : PE X c (tBM K T r to t) := by subst h; exact p
theorem kPsF {st : Stmt} {ta tv : TE} {f : Str} (K : Frg) (p : PS X st (sFld X.K ta tv f)) (h : X.K = K := by rfl) : PS X st (sFld K ta tv f) := by subst h; exact p
end
end BW
/-! Loops over enumerate, tests; rising lists by neighbours. -/
namespace BW
open PySem L2 Evl
theorem for_enum {K : Frg} {a : Addr} {xs : List V} {g : TG} {tb : TS} {D : Ends} {σ : L2.St} {H : Hp} (Pv : Nat → L2.St → Hp → Prop) (h0 : Pv 0 σ H) (hl : ∀ i σ H, i ≤ xs.length → Pv i σ H → SqL K H a xs)
    (hs : ∀ i x T σ H, xs[i]? = some x → Pv i σ H → H T = none → g (.ref T) σ (upd H T (.tup [.int (i : Int), x])) fun σ2 H2 => tb { D with nx := Pv (i + 1), ct := Pv (i + 1), bk := D.nx } σ2 H2) (hd : ∀ σ H, Pv xs.length σ H → D.nx σ H) :
    ∃ W : Nat → Nat → L2.St → Hp → Prop, (∃ m, W 0 m σ H) ∧ ∀ i m σ H, W i m σ H →
      ((Ite K a).stop i H ∧ D.nx σ H) ∨ ((Ite K a).go i H ∧ ∃ N : L2.St → Hp → Prop, (∀ σ' H', N σ' H' → ∃ m', m' < m ∧ W (i + 1) m' σ' H') ∧ ∀ x H', (Ite K a).yld i H x H' → g x σ H' fun σ2 H2 => tb { D with nx := N, ct := N, bk := D.nx } σ2 H2) := by
  refine ⟨fun i m σ H => Pv i σ H ∧ i + m = xs.length, ⟨xs.length, h0, by omega⟩, fun i m σ H ⟨p, hm⟩ => ?_⟩
  have hS := hl i σ H (by omega) p
  by_cases hi : i < xs.length
  · refine .inr ⟨⟨xs, _, hS, List.getElem?_eq_getElem hi⟩, fun σ' H' => Pv (i + 1) σ' H', fun σ' H' q => ⟨xs.length - (i + 1), by omega, q, by omega⟩, ?_⟩
    rintro v H' ⟨T, x, rfl, hT, rfl, hx⟩
    exact hs i x T σ H (hx xs hS) p hT
  · have e : i = xs.length := by omega
    subst e
    exact .inl ⟨⟨xs, hS, Nat.le_refl _⟩, hd σ H p⟩
theorem for_zip {K : Frg} {a b : Addr} {xs ys : List V} {g : TG} {tb : TS} {D : Ends} {σ : L2.St} {H : Hp} (Pv : Nat → L2.St → Hp → Prop) (h0 : Pv 0 σ H) (hq : ∀ i σ H, Pv i σ H → SqL K H a xs ∧ SqL K H b ys)
    (hs : ∀ (i : Nat) (x y : V) (T : Addr) (σ : L2.St) (H : Hp), xs[i]? = some x → ys[i]? = some y → Pv i σ H → H T = none → g (.ref T) σ (upd H T (.tup [x, y])) fun σ2 H2 => tb { D with nx := Pv (i + 1), ct := Pv (i + 1), bk := D.nx } σ2 H2)
    (hd : ∀ i σ H, (xs.length ≤ i ∨ ys.length ≤ i) → Pv i σ H → D.nx σ H) :
    ∃ W : Nat → Nat → L2.St → Hp → Prop, (∃ m, W 0 m σ H) ∧ ∀ i m σ H, W i m σ H →
      ((Itz K a b).stop i H ∧ D.nx σ H) ∨ ((Itz K a b).go i H ∧ ∃ N : L2.St → Hp → Prop, (∀ σ' H', N σ' H' → ∃ m', m' < m ∧ W (i + 1) m' σ' H') ∧ ∀ x H', (Itz K a b).yld i H x H' → g x σ H' fun σ2 H2 => tb { D with nx := N, ct := N, bk := D.nx } σ2 H2) := by
  refine ⟨fun i m σ H => Pv i σ H ∧ i + m = xs.length, ⟨xs.length, h0, by omega⟩, fun i m σ H ⟨p, hm⟩ => ?_⟩
  obtain ⟨sx, sy⟩ := hq i σ H p
  by_cases hi : i < xs.length ∧ i < ys.length
  · refine .inr ⟨⟨xs, ys, _, _, sx, sy, List.getElem?_eq_getElem hi.1, List.getElem?_eq_getElem hi.2⟩, fun σ' H' => Pv (i + 1) σ' H', fun σ' H' q => ⟨xs.length - (i + 1), by omega, q, by omega⟩, ?_⟩
    rintro v H' ⟨T, x, y, rfl, hT, rfl, hx, hy⟩
    exact hs i x y T σ H (hx xs sx) (hy ys sy) p hT
  · have e : xs.length ≤ i ∨ ys.length ≤ i := by omega
    exact .inl ⟨⟨xs, ys, sx, sy, e⟩, hd i σ H e p⟩
theorem ty_list {K : Frg} {H : Hp} {a : Addr} {xs : List V} (h : SqL K H a xs) : TyX K H (.ref a) (.type "list") := by
  rcases h with (h | ⟨o, h⟩) | ⟨o, its, n, h1, h2, _⟩
  · exact .base (.lst h)
  · exact .base (.frz h)
  · exact .kList h1 h2
theorem ty_tup {K : Frg} {H : Hp} {a : Addr} {xs : List V} (h : SqT K H a xs) : TyX K H (.ref a) (.type "tuple") := by
  rcases h with (h | ⟨o, h⟩) | ⟨o, its, n, h1, h2, _⟩
  · exact .base (.tup h)
  · exact .fTuple h
  · exact .kTuple h1 h2
section
variable {K : Frg} {σ : L2.St} {H : Hp} {te : TE}
/-- isinstance(x, T), the value at hand -/
theorem ev_isi {x : V} {T u : String} {b : Bool} {tc : TE} (h : Ev te σ H x) (hc : Ev tc σ H (.ty u)) (ty : ∀ H1, Ex H H1 → TyX K H1 x (.type T)) (k : kitB T u = some b) : Ev (tCB (rIsi K) (tCons te (tCons tc tNil))) σ H (.bl b) :=
  ev_cb (ea_cons h (ea_cons hc ea_nil)) (rc_isi (.ty _) ty (kit_ty k))
end
/-! ### rising lists by neighbours -/
def AdjOk (n : Nat) (c : List Nat) (j : Nat) : Prop := c.getD j 0 < n ∧ (0 < j → c.getD (j - 1) 0 < c.getD j 0)
theorem rising_adj {n : Nat} {c : List Nat} : Rising n c ↔ ∀ j, j < c.length → AdjOk n c j := by
  constructor
  · rintro ⟨h1, h2⟩ j hj
    have g : ∀ i, (hi : i < c.length) → c.getD i 0 = c[i] := fun i hi => by rw [List.getD_eq_getElem?_getD, List.getElem?_eq_getElem hi]; rfl
    refine ⟨?_, fun h0 => ?_⟩
    · rw [g j hj]
      exact h2 _ (List.getElem_mem hj)
    · rw [g j hj, g (j - 1) (by omega)]
      exact List.pairwise_iff_getElem.mp h1 (j - 1) j (by omega) hj (by omega)
  · intro h
    have g : ∀ i, (hi : i < c.length) → c.getD i 0 = c[i] := fun i hi => by rw [List.getD_eq_getElem?_getD, List.getElem?_eq_getElem hi]; rfl
    have up : ∀ d i, i + d + 1 < c.length → c.getD i 0 < c.getD (i + d + 1) 0 := by
      intro d
      induction d with
      | zero =>
        intro i hi
        have := (h (i + 1) hi).2 (by omega)
        rwa [show i + 1 - 1 = i by omega] at this
      | succ d ih =>
        intro i hi
        have a := ih i (by omega)
        have b := (h (i + (d + 1) + 1) hi).2 (by omega)
        rw [show i + (d + 1) + 1 - 1 = i + d + 1 by omega] at b
        omega
    refine ⟨List.pairwise_iff_getElem.mpr fun i j hi hj hij => ?_, fun x hx => ?_⟩
    · have := up (j - i - 1) i (by omega)
      rw [show i + (j - i - 1) + 1 = j by omega, g i hi, g j hj] at this
      exact this
    · obtain ⟨i, hi, rfl⟩ := List.mem_iff_getElem.mp hx
      have := (h i hi).1
      rwa [g i hi] at this
end BW
/-! Lists of ints, of pairs of ints as data; slices; papers by neighbours. -/
namespace BW
open PySem L2 Evl
theorem cut_from {xs : List V} {k : Nat} : cutV xs (some (k : Int)) none = xs.drop k := by
  unfold cutV
  rw [HT.sIx_nat, HT.sIx_none]
  rcases Nat.le_total k xs.length with h | h
  · rw [Nat.min_eq_left h]
    exact List.take_of_length_le (by rw [List.length_drop]; exact Nat.le_refl _)
  · rw [Nat.min_eq_right h, List.drop_of_length_le (Nat.le_refl _), List.drop_of_length_le h, List.take_nil]
theorem cut_to {xs : List V} {k : Nat} : cutV xs none (some (k : Int)) = xs.take k := by
  unfold cutV
  rw [HT.sIx_nat, HT.sIx_none]
  rcases Nat.le_total k xs.length with h | h
  · rw [Nat.min_eq_left h, List.drop_zero, Nat.sub_zero]
  · rw [Nat.min_eq_right h, List.drop_zero, Nat.sub_zero, List.take_of_length_le (Nat.le_refl _), List.take_of_length_le h]
/-! ### data -/
def dInts (ns : List Int) : PyData := .list (ns.map .int)
def dPairs (p : Paper) : PyData := .list (p.map fun q => .tuple [.int q.1, .int q.2])
theorem dpAll_ints {K : Frg} {H : Hp} : ∀ ns : List Int, DpAll K H (ns.map V.int) (ns.map .int)
  | [] => .nil
  | n :: ns => .cons (.int n) (dpAll_ints ns)
theorem dp_ints {K : Frg} {H : Hp} {a : Addr} {ns : List Int} (h : SqL K H a (ns.map V.int)) : Dp K H (.ref a) (dInts ns) := .lst h (dpAll_ints ns)
theorem dpAll_of {K : Frg} {H : Hp} {α : Type} {R : V → α → Prop} {f : α → PyData} (k : ∀ v x, R v x → Dp K H v (f x)) : ∀ {vs : List V} {xs : List α}, All2 R vs xs → DpAll K H vs (xs.map f)
  | [], [], _ => .nil
  | [], x :: xs, h => absurd h.1 (by simp)
  | v :: vs, [], h => absurd h.1 (by simp)
  | v :: vs, x :: xs, h => .cons (k v x (h.2 0 v x rfl rfl)) (dpAll_of k ⟨by have := h.1; simpa using this, fun i a b ha hb => h.2 (i + 1) a b ha hb⟩)
theorem dp_pairs {K : Frg} {H : Hp} {v : V} {p : Paper} (h : rLst K (rII K) H v p) : Dp K H v (dPairs p) := by
  obtain ⟨a, vs, rfl, hl, hA⟩ := h
  exact .lst hl (dpAll_of (fun v q ⟨t, e, ht⟩ => e ▸ .tup ht (.cons (.int _) (.cons (.int _) .nil))) hA)
theorem eqv_ints : ∀ ns ms : List Int, PyData.eqv (dInts ns) (dInts ms) = decide (ns = ms)
  | [], [] => rfl
  | [], m :: ms => rfl
  | n :: ns, [] => rfl
  | n :: ns, m :: ms => by
    have ih := eqv_ints ns ms
    unfold dInts at *
    show (PyData.eqv (.int n) (.int m) && PyData.eqvAll (ns.map .int) (ms.map .int)) = _
    have e : PyData.eqvAll (ns.map .int) (ms.map .int) = decide (ns = ms) := by
      rw [← ih]
      simp [PyData.eqv]
    rw [e]
    show ((n == m) && decide (ns = ms)) = decide (n :: ns = m :: ms)
    rw [Bool.eq_iff_iff]
    simp
theorem eqv_nil (p : Paper) : PyData.eqv (dPairs p) (.list []) = decide (p = []) := by
  cases p with
  | nil => rfl
  | cons q p => rfl
theorem lay_ints : ∀ ns : List Int, PyData.canLayAll0 (ns.map .int) = true
  | [] => rfl
  | n :: ns => by
    show (PyData.canLay0 (.int n) && PyData.canLayAll0 (ns.map .int)) = true
    rw [lay_ints ns]
    rfl
theorem deep_ints : ∀ ns : List Int, PyData.depthAll (ns.map .int) = 0 := PySem.W.depth_ints
theorem shaped_ints (ns : List Int) : SeqAt.shaped (dInts ns) = true := by
  unfold SeqAt.shaped dInts
  have h1 : PyData.canLay0 (.list (ns.map .int)) = true := lay_ints ns
  have h2 : PyData.depth (.list (ns.map .int)) = 1 := by
    show PyData.depthAll (ns.map .int) + 1 = 1
    rw [deep_ints]
  rw [h1, h2]
  rfl
theorem lay_pairs : ∀ p : Paper, PyData.canLayAll0 (p.map fun q => .tuple [.int q.1, .int q.2]) = true ∧ PyData.depthAll (p.map fun q => .tuple [.int q.1, .int q.2]) ≤ 1
  | [] => ⟨rfl, Nat.zero_le _⟩
  | q :: p => by
    obtain ⟨h1, h2⟩ := lay_pairs p
    refine ⟨?_, ?_⟩
    · show (PyData.canLay0 (.tuple [.int q.1, .int q.2]) && PyData.canLayAll0 (p.map fun q => .tuple [.int q.1, .int q.2])) = true
      rw [h1]
      rfl
    · show max (PyData.depth (.tuple [.int q.1, .int q.2])) (PyData.depthAll (p.map fun q => .tuple [.int q.1, .int q.2])) ≤ 1
      have : PyData.depth (.tuple [.int q.1, .int q.2]) = 1 := rfl
      omega
theorem shaped_pairs (p : Paper) : SeqAt.shaped (dPairs p) = true := by
  unfold SeqAt.shaped dPairs
  obtain ⟨h1, h2⟩ := lay_pairs p
  have e1 : PyData.canLay0 (.list (p.map fun q => .tuple [.int q.1, .int q.2])) = true := h1
  have e2 : PyData.depth (.list (p.map fun q => .tuple [.int q.1, .int q.2])) ≤ 2 := by
    show PyData.depthAll _ + 1 ≤ 2
    omega
  rw [e1, decide_eq_true (show PyData.depth (.list (p.map fun q => .tuple [.int q.1, .int q.2])) ≤ 64 by omega)]
  rfl
/-! ### papers by neighbours -/
def pAt (p : Paper) (j : Nat) : Int × Int := p.getD j (0, 0)
theorem rise_adj {p : Paper} : p.Pairwise (fun a b => a.1 < b.1) ↔ ∀ j, j + 1 < p.length → (pAt p j).1 < (pAt p (j + 1)).1 := by
  have g : ∀ i, (hi : i < p.length) → pAt p i = p[i] := fun i hi => by unfold pAt; rw [List.getD_eq_getElem?_getD, List.getElem?_eq_getElem hi]; rfl
  constructor
  · intro h j hj
    rw [g j (by omega), g (j + 1) hj]
    exact List.pairwise_iff_getElem.mp h j (j + 1) (by omega) hj (by omega)
  · intro h
    have up : ∀ d i, i + d + 1 < p.length → (pAt p i).1 < (pAt p (i + d + 1)).1 := by
      intro d
      induction d with
      | zero => intro i hi; exact h i hi
      | succ d ih =>
        intro i hi
        have a := ih i (by omega)
        have b := h (i + d + 1) (by omega)
        rw [show i + (d + 1) + 1 = i + d + 1 + 1 by omega]
        omega
    refine List.pairwise_iff_getElem.mpr fun i j hi hj hij => ?_
    have := up (j - i - 1) i (by omega)
    rw [show i + (j - i - 1) + 1 = j by omega, g i hi, g j hj] at this
    exact this
def priceB (q : Int × Int) : Bool := (decide ((0 : Int) - 1000000000000 ≤ q.1) && decide (q.1 < 1000000000000)) && (decide ((1 : Int) ≤ q.2) && decide (q.2 ≤ 10000000000000))
theorem priceB_iff {q : Int × Int} : priceB q = true ↔ (0 - 10 ^ 12 ≤ q.1 ∧ q.1 < 10 ^ 12) ∧ 1 ≤ q.2 ∧ q.2 ≤ 10 ^ 13 := by
  unfold priceB
  simp only [Bool.and_eq_true, decide_eq_true_eq]
  constructor
  · rintro ⟨⟨a, b⟩, c, d⟩; exact ⟨⟨by omega, by omega⟩, by omega, by omega⟩
  · rintro ⟨⟨a, b⟩, c, d⟩; exact ⟨⟨by omega, by omega⟩, by omega, by omega⟩
theorem paperOk_iff {p : Paper} : PaperOk p ↔ p.length ≤ 48 ∧ (∀ j, j < p.length → priceB (pAt p j) = true) ∧ ∀ j, j + 1 < p.length → (pAt p j).1 < (pAt p (j + 1)).1 := by
  have g : ∀ i, (hi : i < p.length) → pAt p i = p[i] := fun i hi => by unfold pAt; rw [List.getD_eq_getElem?_getD, List.getElem?_eq_getElem hi]; rfl
  constructor
  · rintro ⟨a, b, c⟩
    exact ⟨a, fun j hj => by rw [g j hj]; exact priceB_iff.mpr (c _ (List.getElem_mem hj)), rise_adj.mp b⟩
  · rintro ⟨a, b, c⟩
    refine ⟨a, rise_adj.mpr c, fun q hq => ?_⟩
    obtain ⟨i, hi, rfl⟩ := List.mem_iff_getElem.mp hq
    have := b i hi
    rw [g i hi] at this
    exact priceB_iff.mp this
/-! ### what lets_row looks at -/
structure BothOk (bk : Bk) (st : Steps) (k : Nat) (p : Paper) : Prop where
  ok : PaperOk p
  c0 : claim bk k p = stepW st k
  last : k + 1 = st.length → p = []
  c1 : k + 1 ≠ st.length → claim bk (k + 1) p = stepW st (k + 1)
structure LetsOk (bk : Bk) (st : Steps) (pp : List Paper) : Prop where
  pl : st.length = pp.length
  sl : st.length = crowd bk (List.range bk.length) + 1
  ch : ∀ k, k < st.length → StepOk bk k (st.getD k (0, []))
  pa : ∀ k, k < pp.length → BothOk bk st k (pp.getD k [])
theorem RowOk.lets {bk : Bk} {st : Steps} {pp : List Paper} (R : RowOk bk st pp) : LetsOk bk st pp := by
  have h1 := R.sl
  have h2 := R.pl
  refine ⟨by omega, h1, R.ch, fun k hk => ⟨R.pa k (by omega), R.c0 k (by omega), fun e => ?_, fun e => R.c1 k (by omega)⟩⟩
  have : k = crowd bk (List.range bk.length) := by omega
  rw [this]
  exact R.last
end BW
/-! Comprehensions, a turn told as one. -/
namespace BW
open PySem L2 Evl
section
variable {α β : Type} {R : Rep α} [Mono R] {S : Rep β} [Mono S] {K : Frg} {σ : L2.St} {H B : Hp} {te tl : TE} {t : TT} {g : TG} {vs : List Nat}
theorem evb_lcU {x : V} {xs : List α} (F : α → Option β) (hB : Sub B H) (hs : Ev tl σ H x) (hx : rLst K R H x xs) (hz : xs.length ≤ 40000)
    (ht : ∀ v a, a ∈ xs → R H v a → ∃ σ2, Tg g v (wipe σ vs) H σ2 ∧ wipe σ2 vs = wipe σ vs ∧ (∀ H1, Ex H H1 → EvT t σ2 H1 (F a).isSome) ∧ ∀ H1 B1 b, Ex H H1 → Sub B1 H1 → F a = some b → EvB te σ2 H1 B1 (fun G y => S G y b)) :
    EvB (tLc (iList K tl) g t te vs) σ H B (fun G y => rTL S G y (xs.filterMap F)) := by
  obtain ⟨a, ws, rfl, hl, hA⟩ := hx
  intro H0 e Q q
  refine hs H0 e _ fun H1 e1 => ⟨a, rfl, ⟨ws, ex_l (e.trans e1) hl⟩, fun Dl hD => ?_⟩
  have hB1 : Sub B H1 := (hB.ex e).ex e1
  refine lc_list (xs := ws) (fun i H' => Ex H1 H' ∧ ∃ acc, H' Dl = some (.lst acc) ∧ acc.length ≤ i ∧ All2 (S (New (upd B Dl (.lst [])) H')) acc ((xs.take i).filterMap F)) ⟨Ex.new hD, [], upd_same, Nat.zero_le _, All2.nil⟩ (fun i H' _ pp => ex_l ((e.trans e1).trans pp.1) hl) (fun i v H' hi pp => ?_) fun H' pp => ?_
  · obtain ⟨y, hy, r⟩ := hA.of_v hi
    obtain ⟨p1, acc, p2, p3, p4⟩ := pp
    have hm := List.mem_of_getElem? hy
    have eH := (e.trans e1).trans p1
    obtain ⟨σ2, h1, h2, h3, h4⟩ := ht v y hm r
    refine h1 H' eH _ ⟨h2, h3 H' eH H' (Ex.refl _) _ fun H2 e2 => ?_⟩
    have hi2 : i < xs.length := (List.getElem?_eq_some_iff.mp hy).1
    cases hp : F y with
    | some b =>
      show te _ H2 _
      refine h4 H2 (upd B Dl (.lst [])) b (eH.trans e2) (Sub.upd ((hB1.ex p1).ex e2) (e2 _ _ p2)) hp H2 (Ex.refl _) _ fun z H3 e3 rz => ⟨acc, e3 _ _ (e2 _ _ p2), sz_lt (by omega), Ex.mut ((p1.trans e2).trans e3) hD, acc ++ [z], upd_same, by simp; omega, ?_⟩
      rw [filterMap_snoc F hy, hp]
      have e5 : New (upd B Dl (.lst [])) (upd H3 Dl (.lst (acc ++ [z]))) = New (upd B Dl (.lst [])) H3 := new_mut upd_same
      rw [e5]
      exact (p4.mono fun _ _ => Mono.mono (new_mono (e2.trans e3))).snoc rz
    | none =>
      refine ⟨p1.trans e2, acc, e2 _ _ p2, by omega, ?_⟩
      rw [filterMap_snoc F hy, hp]
      show All2 _ _ (_ ++ [])
      rw [List.append_nil]
      exact p4.mono fun _ _ => Mono.mono (new_mono e2)
  · obtain ⟨p1, acc, p2, p3, p4⟩ := pp
    have hlen : ws.length = xs.length := hA.1
    rw [hlen, List.take_length] at p4
    have h0 : B Dl = none := hB1 _ hD
    refine q _ H' (e1.trans p1) ⟨Dl, acc, rfl, (by rw [new_of h0]; exact p2), p4.mono fun _ _ => Mono.mono (new_base fun b hb => ?_)⟩
    by_cases eb : b = Dl
    · rw [eb]; exact h0
    · rw [upd_ne eb] at hb; exact hb
theorem el_lcU {x : V} {xs : List α} (p : α → Bool) (h : α → V) (hs : Ev tl σ H x) (hx : rLst K R H x xs) (hz : xs.length ≤ 40000)
    (ht : ∀ v a, a ∈ xs → R H v a → ∃ σ2, Tg g v (wipe σ vs) H σ2 ∧ wipe σ2 vs = wipe σ vs ∧ (∀ H1, Ex H H1 → EvT t σ2 H1 (p a)) ∧ ∀ H1, Ex H H1 → p a = true → Ev te σ2 H1 (h a)) :
    EvL (tLc (iList K tl) g t te vs) σ H ((xs.filter p).map h) := by
  obtain ⟨a, ws, rfl, hl, hA⟩ := hx
  intro H0 e Q q
  refine hs H0 e _ fun H1 e1 => ⟨a, rfl, ⟨ws, ex_l (e.trans e1) hl⟩, fun Dl hD => ?_⟩
  refine lc_list (xs := ws) (fun i H' => Ex H1 H' ∧ H' Dl = some (.lst (((xs.take i).filter p).map h))) ⟨Ex.new hD, by rw [List.take_zero]; exact upd_same⟩ (fun i H' _ pp => ex_l ((e.trans e1).trans pp.1) hl) (fun i v H' hi pp => ?_) fun H' pp => ?_
  · obtain ⟨y, hy, r⟩ := hA.of_v hi
    have hm := List.mem_of_getElem? hy
    have eH := (e.trans e1).trans pp.1
    obtain ⟨σ2, h1, h2, h3, h4⟩ := ht v y hm r
    refine h1 H' eH _ ⟨h2, h3 H' eH H' (Ex.refl _) _ fun H2 e2 => ?_⟩
    have hi2 : i < xs.length := (List.getElem?_eq_some_iff.mp hy).1
    cases hp : p y with
    | true =>
      show te _ H2 _
      refine h4 H2 (eH.trans e2) hp H2 (Ex.refl _) _ fun H3 e3 => ⟨_, e3 _ _ (e2 _ _ pp.2), ?_, Ex.mut ((pp.1.trans e2).trans e3) hD, ?_⟩
      · have := List.length_filter_le p (xs.take i)
        rw [List.length_take] at this
        rw [List.length_map]
        exact sz_lt (by omega)
      · rw [filter_map_snoc p h hy, if_pos hp]
        exact upd_same
    | false =>
      refine ⟨pp.1.trans e2, ?_⟩
      rw [filter_map_snoc p h hy, if_neg (by rw [hp]; decide), List.append_nil]
      exact e2 _ _ pp.2
  · have hlen : ws.length = xs.length := hA.1
    rw [hlen, List.take_length] at pp
    exact q Dl H' (fresh_back e1 hD) (e1.trans pp.1) pp.2
theorem et_yes {σ : L2.St} {H : Hp} : EvT tYes σ H true := fun H1 _ Q q => q H1 (Ex.refl _)
end
/-- a list's place under a change of another thing -/
theorem sql_mut {K : Frg} {H : Hp} {a p : Addr} {xs : List V} {o u : HO} (h : SqL K H a xs) (hp : H p = some u) (d : ∀ ys, u ≠ .lst ys) (d2 : ∀ ob ys, u ≠ .frz ob (.lst ys)) : SqL K (upd H p o) a xs := by
  rcases h with (h | ⟨ob, h⟩) | h
  · refine .inl (.inl ?_)
    rw [upd_ne (fun z => d xs (by rw [z, hp] at h; exact Option.some.inj h))]
    exact h
  · refine .inl (.inr ⟨ob, ?_⟩)
    rw [upd_ne (fun z => d2 ob xs (by rw [z, hp] at h; exact Option.some.inj h))]
    exact h
  · exact .inr h
end BW
/-! The text by places. -/
namespace BW
open PySem L2 Evl
def topS (i : Nat) : Stmt := PySem.Challenge.pw_benchworth_k40_whole_rows_are_the_most.main.body.getD i (.Pass ⟨0, 0, 0, 0⟩)
abbrev S_is_whole : Stmt := topS 1
abbrev N_is_whole : List Str := ["thing"]
theorem sc_is_whole : FnScope N_is_whole ["thing"] (defScope S_is_whole) := ⟨rfl, rfl, rfl, by decide +kernel, rfl, by decide +kernel, by decide +kernel⟩
abbrev S_is_over : Stmt := topS 3
abbrev N_is_over : List Str := ["stretch", "moment"]
theorem sc_is_over : FnScope N_is_over ["stretch", "moment"] (defScope S_is_over) := ⟨rfl, rfl, rfl, by decide +kernel, rfl, by decide +kernel, by decide +kernel⟩
abbrev S_moments_of : Stmt := topS 4
abbrev N_moments_of : List Str := ["book", "stretch"]
theorem sc_moments_of : FnScope N_moments_of ["book"] (defScope S_moments_of) := ⟨rfl, rfl, rfl, by decide +kernel, rfl, by decide +kernel, by decide +kernel⟩
abbrev S_load_at : Stmt := topS 6
abbrev N_load_at : List Str := ["book", "some", "moment", "number"]
theorem sc_load_at : FnScope N_load_at ["book", "some", "moment"] (defScope S_load_at) := ⟨rfl, rfl, rfl, by decide +kernel, rfl, by decide +kernel, by decide +kernel⟩
abbrev S_loads_of : Stmt := topS 7
abbrev N_loads_of : List Str := ["book", "some", "ends", "found", "last", "moment", "load", "number"]
theorem sc_loads_of : FnScope N_loads_of ["book", "some"] (defScope S_loads_of) := ⟨rfl, rfl, rfl, by decide +kernel, rfl, by decide +kernel, by decide +kernel⟩
abbrev S_crowd_of : Stmt := topS 8
abbrev N_crowd_of : List Str := ["book", "some", "greatest", "first", "moment", "load", "number"]
theorem sc_crowd_of : FnScope N_crowd_of ["book", "some"] (defScope S_crowd_of) := ⟨rfl, rfl, rfl, by decide +kernel, rfl, by decide +kernel, by decide +kernel⟩
abbrev S_is_some : Stmt := topS 10
abbrev N_is_some : List Str := ["many", "thing", "place", "number"]
theorem sc_is_some : FnScope N_is_some ["many", "thing"] (defScope S_is_some) := ⟨rfl, rfl, rfl, by decide +kernel, rfl, by decide +kernel, by decide +kernel⟩
abbrev S_is_choice : Stmt := topS 11
abbrev N_is_choice : List Str := ["book", "benches", "thing"]
theorem sc_is_choice : FnScope N_is_choice ["book", "benches", "thing"] (defScope S_is_choice) := ⟨rfl, rfl, rfl, by decide +kernel, rfl, by decide +kernel, by decide +kernel⟩
abbrev S_worth_of : Stmt := topS 12
abbrev N_worth_of : List Str := ["book", "some", "number"]
theorem sc_worth_of : FnScope N_worth_of ["book", "some"] (defScope S_worth_of) := ⟨rfl, rfl, rfl, by decide +kernel, rfl, by decide +kernel, by decide +kernel⟩
abbrev S_is_price : Stmt := topS 17
abbrev N_is_price : List Str := ["thing"]
theorem sc_is_price : FnScope N_is_price ["thing"] (defScope S_is_price) := ⟨rfl, rfl, rfl, by decide +kernel, rfl, by decide +kernel, by decide +kernel⟩
abbrev S_is_paper : Stmt := topS 18
abbrev N_is_paper : List Str := ["thing", "one", "other"]
theorem sc_is_paper : FnScope N_is_paper ["thing"] (defScope S_is_paper) := ⟨rfl, rfl, rfl, by decide +kernel, rfl, by decide +kernel, by decide +kernel⟩
abbrev S_toll_of : Stmt := topS 19
abbrev N_toll_of : List Str := ["stretch", "paper", "moment", "price"]
theorem sc_toll_of : FnScope N_toll_of ["stretch", "paper"] (defScope S_toll_of) := ⟨rfl, rfl, rfl, by decide +kernel, rfl, by decide +kernel, by decide +kernel⟩
abbrev S_rest_of : Stmt := topS 20
abbrev N_rest_of : List Str := ["stretch", "paper"]
theorem sc_rest_of : FnScope N_rest_of ["stretch", "paper"] (defScope S_rest_of) := ⟨rfl, rfl, rfl, by decide +kernel, rfl, by decide +kernel, by decide +kernel⟩
abbrev S_claim : Stmt := topS 21
abbrev N_claim : List Str := ["book", "benches", "paper", "prices", "moment", "price", "stretch"]
theorem sc_claim : FnScope N_claim ["book", "benches", "paper"] (defScope S_claim) := ⟨rfl, rfl, rfl, by decide +kernel, rfl, by decide +kernel, by decide +kernel⟩
abbrev S_is_step : Stmt := topS 23
abbrev N_is_step : List Str := ["book", "benches", "thing"]
theorem sc_is_step : FnScope N_is_step ["book", "benches", "thing"] (defScope S_is_step) := ⟨rfl, rfl, rfl, by decide +kernel, rfl, by decide +kernel, by decide +kernel⟩
abbrev S_claims_both : Stmt := topS 24
abbrev N_claims_both : List Str := ["book", "steps", "benches", "thing"]
theorem sc_claims_both : FnScope N_claims_both ["book", "steps", "benches", "thing"] (defScope S_claims_both) := ⟨rfl, rfl, rfl, by decide +kernel, rfl, by decide +kernel, by decide +kernel⟩
abbrev S_lets_row : Stmt := topS 25
abbrev N_lets_row : List Str := ["book", "thing", "steps", "papers", "benches", "step", "paper"]
theorem sc_lets_row : FnScope N_lets_row ["book", "thing"] (defScope S_lets_row) := ⟨rfl, rfl, rfl, by decide +kernel, rfl, by decide +kernel, by decide +kernel⟩
abbrev S_init : Stmt := inClass (topS 27) 0
abbrev N_init : List Str := ["self", "spans", "must", "piece", "span", "begin", "end", "worth"]
theorem sc_init : FnScope N_init ["self", "spans", "must"] (defScope S_init) := ⟨rfl, rfl, rfl, by decide +kernel, rfl, by decide +kernel, by decide +kernel⟩
abbrev S_piece_arcs : Stmt := inClass (topS 27) 1
abbrev N_piece_arcs : List Str := ["self", "k", "found"]
theorem sc_piece_arcs : FnScope N_piece_arcs ["self", "k"] (defScope S_piece_arcs) := ⟨rfl, rfl, rfl, by decide +kernel, rfl, by decide +kernel, by decide +kernel⟩
abbrev S_span_arc : Stmt := inClass (topS 27) 2
abbrev N_span_arc : List Str := ["self", "i", "begin", "end", "worth"]
theorem sc_span_arc : FnScope N_span_arc ["self", "i"] (defScope S_span_arc) := ⟨rfl, rfl, rfl, by decide +kernel, rfl, by decide +kernel, by decide +kernel⟩
abbrev S_arcs_left : Stmt := inClass (topS 27) 3
abbrev N_arcs_left : List Str := ["self", "found", "k", "i"]
theorem sc_arcs_left : FnScope N_arcs_left ["self"] (defScope S_arcs_left) := ⟨rfl, rfl, rfl, by decide +kernel, rfl, by decide +kernel, by decide +kernel⟩
abbrev S_roads_told : Stmt := inClass (topS 27) 4
abbrev N_roads_told : List Str := ["self", "many", "gains", "last_arcs", "arcs", "changed", "arc", "gain", "node"]
theorem sc_roads_told : FnScope N_roads_told ["self"] (defScope S_roads_told) := ⟨rfl, rfl, rfl, by decide +kernel, rfl, by decide +kernel, by decide +kernel⟩
abbrev S_go_along : Stmt := inClass (topS 27) 5
abbrev N_go_along : List Str := ["self", "arc", "kind", "number"]
theorem sc_go_along : FnScope N_go_along ["self", "arc"] (defScope S_go_along) := ⟨rfl, rfl, rfl, by decide +kernel, rfl, by decide +kernel, by decide +kernel⟩
abbrev S_send_unit : Stmt := inClass (topS 27) 6
abbrev N_send_unit : List Str := ["self", "gains", "last_arcs", "node", "arc"]
theorem sc_send_unit : FnScope N_send_unit ["self"] (defScope S_send_unit) := ⟨rfl, rfl, rfl, by decide +kernel, rfl, by decide +kernel, by decide +kernel⟩
abbrev S_greatest_over : Stmt := inClass (topS 27) 7
abbrev N_greatest_over : List Str := ["self", "k", "begin", "end", "worth"]
theorem sc_greatest_over : FnScope N_greatest_over ["self", "k"] (defScope S_greatest_over) := ⟨rfl, rfl, rfl, by decide +kernel, rfl, by decide +kernel, by decide +kernel⟩
abbrev S_prices_now : Stmt := inClass (topS 27) 8
abbrev N_prices_now : List Str := ["self", "gains", "last_arcs", "found", "k"]
theorem sc_prices_now : FnScope N_prices_now ["self"] (defScope S_prices_now) := ⟨rfl, rfl, rfl, by decide +kernel, rfl, by decide +kernel, by decide +kernel⟩
abbrev S_taken_now : Stmt := inClass (topS 27) 9
abbrev N_taken_now : List Str := ["self", "i"]
theorem sc_taken_now : FnScope N_taken_now ["self"] (defScope S_taken_now) := ⟨rfl, rfl, rfl, by decide +kernel, rfl, by decide +kernel, by decide +kernel⟩
abbrev S_spans_of : Stmt := topS 29
abbrev N_spans_of : List Str := ["book", "places", "k", "moment", "name", "begin", "end", "worth"]
theorem sc_spans_of : FnScope N_spans_of ["book"] (defScope S_spans_of) := ⟨rfl, rfl, rfl, by decide +kernel, rfl, by decide +kernel, by decide +kernel⟩
abbrev S_pieces_of : Stmt := topS 30
abbrev N_pieces_of : List Str := ["book"]
theorem sc_pieces_of : FnScope N_pieces_of ["book"] (defScope S_pieces_of) := ⟨rfl, rfl, rfl, by decide +kernel, rfl, by decide +kernel, by decide +kernel⟩
abbrev S_paper_of : Stmt := topS 31
abbrev N_paper_of : List Str := ["moments", "prices", "moment", "price"]
theorem sc_paper_of : FnScope N_paper_of ["moments", "prices"] (defScope S_paper_of) := ⟨rfl, rfl, rfl, by decide +kernel, rfl, by decide +kernel, by decide +kernel⟩
abbrev S_row_of : Stmt := topS 33
abbrev N_row_of : List Str := ["book", "moments", "line", "steps", "papers", "benches", "choice", "moment"]
theorem sc_row_of : FnScope N_row_of ["book"] (defScope S_row_of) := ⟨rfl, rfl, rfl, by decide +kernel, rfl, by decide +kernel, by decide +kernel⟩
abbrev S_most_by : Stmt := topS 34
abbrev N_most_by : List Str := ["row", "benches"]
theorem sc_most_by : FnScope N_most_by ["row", "benches"] (defScope S_most_by) := ⟨rfl, rfl, rfl, by decide +kernel, rfl, by decide +kernel, by decide +kernel⟩
abbrev S_law_begun : Stmt := topS 36
abbrev N_law_begun : List Str := ["_law_script", "_law_k", "_law_cell", "_law_number", "_law_seed"]
theorem sc_law_begun : FnScope N_law_begun ["_law_script", "_law_k"] (defScope S_law_begun) := ⟨rfl, rfl, rfl, by decide +kernel, rfl, by decide +kernel, by decide +kernel⟩
abbrev S_law_take : Stmt := topS 37
abbrev N_law_take : List Str := ["_law_state", "_law_many", "_law_found", "_law_made", "_law_turn"]
theorem sc_law_take : FnScope N_law_take ["_law_state", "_law_many"] (defScope S_law_take) := ⟨rfl, rfl, rfl, by decide +kernel, rfl, by decide +kernel, by decide +kernel⟩
abbrev S_law_name : Stmt := topS 38
abbrev N_law_name : List Str := ["_law_state", "_law_k", "_law_letters", "_law_spelt", "_law_j"]
theorem sc_law_name : FnScope N_law_name ["_law_state", "_law_k"] (defScope S_law_name) := ⟨rfl, rfl, rfl, by decide +kernel, rfl, by decide +kernel, by decide +kernel⟩
abbrev S_law_book : Stmt := topS 39
abbrev N_law_book : List Str := ["_law_state", "_law_most", "_law_size", "_law_unit", "_law_low", "_law_book_here", "_law_k", "_law_begin", "_law_end", "_law_worth_here", "_law_span"]
theorem sc_law_book : FnScope N_law_book ["_law_state", "_law_most"] (defScope S_law_book) := ⟨rfl, rfl, rfl, by decide +kernel, rfl, by decide +kernel, by decide +kernel⟩
abbrev S_law_load : Stmt := topS 40
abbrev N_law_load : List Str := ["_law_book_here", "_law_some", "_law_moment", "_law_i"]
theorem sc_law_load : FnScope N_law_load ["_law_book_here", "_law_some", "_law_moment"] (defScope S_law_load) := ⟨rfl, rfl, rfl, by decide +kernel, rfl, by decide +kernel, by decide +kernel⟩
abbrev S_law_fits : Stmt := topS 41
abbrev N_law_fits : List Str := ["_law_book_here", "_law_some", "_law_benches", "_law_i"]
theorem sc_law_fits : FnScope N_law_fits ["_law_book_here", "_law_some", "_law_benches"] (defScope S_law_fits) := ⟨rfl, rfl, rfl, by decide +kernel, rfl, by decide +kernel, by decide +kernel⟩
abbrev S_law_worth : Stmt := topS 42
abbrev N_law_worth : List Str := ["_law_book_here", "_law_some", "_law_i"]
theorem sc_law_worth : FnScope N_law_worth ["_law_book_here", "_law_some"] (defScope S_law_worth) := ⟨rfl, rfl, rfl, by decide +kernel, rfl, by decide +kernel, by decide +kernel⟩
abbrev S_law_choices : Stmt := topS 43
abbrev N_law_choices : List Str := ["_law_book_here", "_law_benches", "_law_found", "_law_i", "_law_some"]
theorem sc_law_choices : FnScope N_law_choices ["_law_book_here", "_law_benches"] (defScope S_law_choices) := ⟨rfl, rfl, rfl, by decide +kernel, rfl, by decide +kernel, by decide +kernel⟩
abbrev S_law_step : Stmt := topS 44
abbrev N_law_step : List Str := ["_law_state", "_law_book_here", "_law_benches", "_law_choices_here", "_law_most", "_law_best", "_law_lesser", "_law_some"]
theorem sc_law_step : FnScope N_law_step ["_law_state", "_law_book_here", "_law_benches"] (defScope S_law_step) := ⟨rfl, rfl, rfl, by decide +kernel, rfl, by decide +kernel, by decide +kernel⟩
abbrev S_law : Stmt := topS 45
abbrev N_law : List Str := ["_law_script", "_law_k", "_law_state", "_law_book_here", "_law_word", "_law_steps", "_law_papers", "_law_found", "_law_own", "_law_benches", "_law_some", "_law_worse", "_law_gains", "_law_one", "_law_step_here", "_law_other"]
theorem sc_law : FnScope N_law ["_law_script"] (defScope S_law) := ⟨rfl, rfl, rfl, by decide +kernel, rfl, by decide +kernel, by decide +kernel⟩
/-- a def of the top; a method of the class at C -/
structure Df (K : PySem.W.Frag) (mg : Str → Option Value) (x : Str) (st : Stmt) (ps : List Str) where
  f : Addr
  fd : FuncData
  F : Fun K x x st f fd
  b : Binds K fd ps []
  m : mg x = some (.ref f)
structure Dm (K : PySem.W.Frag) (C : Addr) (x qual : Str) (st : Stmt) (ps : List Str) where
  f : Addr
  fd : FuncData
  F : Fun K x qual st f fd
  b : Binds K fd ps []
  M : Meth K C x f
/-- what the top has left, as far as the walk asks -/
structure Txt (K : PySem.W.Frag) (mg : Str → Option Value) where
  C : Addr
  cl : Cls K C
  mgL : mg "Line" = some (.ref C)
  d_is_whole : Df K mg "is_whole" S_is_whole ["thing"]
  d_is_over : Df K mg "is_over" S_is_over ["stretch", "moment"]
  d_moments_of : Df K mg "moments_of" S_moments_of ["book"]
  d_load_at : Df K mg "load_at" S_load_at ["book", "some", "moment"]
  d_loads_of : Df K mg "loads_of" S_loads_of ["book", "some"]
  d_crowd_of : Df K mg "crowd_of" S_crowd_of ["book", "some"]
  d_is_some : Df K mg "is_some" S_is_some ["many", "thing"]
  d_is_choice : Df K mg "is_choice" S_is_choice ["book", "benches", "thing"]
  d_worth_of : Df K mg "worth_of" S_worth_of ["book", "some"]
  d_is_price : Df K mg "is_price" S_is_price ["thing"]
  d_is_paper : Df K mg "is_paper" S_is_paper ["thing"]
  d_toll_of : Df K mg "toll_of" S_toll_of ["stretch", "paper"]
  d_rest_of : Df K mg "rest_of" S_rest_of ["stretch", "paper"]
  d_claim : Df K mg "claim" S_claim ["book", "benches", "paper"]
  d_is_step : Df K mg "is_step" S_is_step ["book", "benches", "thing"]
  d_claims_both : Df K mg "claims_both" S_claims_both ["book", "steps", "benches", "thing"]
  d_lets_row : Df K mg "lets_row" S_lets_row ["book", "thing"]
  m_init : Dm K C "__init__" "Line.__init__" S_init ["self", "spans", "must"]
  m_piece_arcs : Dm K C "piece_arcs" "Line.piece_arcs" S_piece_arcs ["self", "k"]
  m_span_arc : Dm K C "span_arc" "Line.span_arc" S_span_arc ["self", "i"]
  m_arcs_left : Dm K C "arcs_left" "Line.arcs_left" S_arcs_left ["self"]
  m_roads_told : Dm K C "roads_told" "Line.roads_told" S_roads_told ["self"]
  m_go_along : Dm K C "go_along" "Line.go_along" S_go_along ["self", "arc"]
  m_send_unit : Dm K C "send_unit" "Line.send_unit" S_send_unit ["self"]
  m_greatest_over : Dm K C "greatest_over" "Line.greatest_over" S_greatest_over ["self", "k"]
  m_prices_now : Dm K C "prices_now" "Line.prices_now" S_prices_now ["self"]
  m_taken_now : Dm K C "taken_now" "Line.taken_now" S_taken_now ["self"]
  d_spans_of : Df K mg "spans_of" S_spans_of ["book"]
  d_pieces_of : Df K mg "pieces_of" S_pieces_of ["book"]
  d_paper_of : Df K mg "paper_of" S_paper_of ["moments", "prices"]
  d_row_of : Df K mg "row_of" S_row_of ["book"]
  d_most_by : Df K mg "most_by" S_most_by ["row", "benches"]
  d_law_begun : Df K mg "_law_begun" S_law_begun ["_law_script", "_law_k"]
  d_law_take : Df K mg "_law_take" S_law_take ["_law_state", "_law_many"]
  d_law_name : Df K mg "_law_name" S_law_name ["_law_state", "_law_k"]
  d_law_book : Df K mg "_law_book" S_law_book ["_law_state", "_law_most"]
  d_law_load : Df K mg "_law_load" S_law_load ["_law_book_here", "_law_some", "_law_moment"]
  d_law_fits : Df K mg "_law_fits" S_law_fits ["_law_book_here", "_law_some", "_law_benches"]
  d_law_worth : Df K mg "_law_worth" S_law_worth ["_law_book_here", "_law_some"]
  d_law_choices : Df K mg "_law_choices" S_law_choices ["_law_book_here", "_law_benches"]
  d_law_step : Df K mg "_law_step" S_law_step ["_law_state", "_law_book_here", "_law_benches"]
  d_law : Df K mg "law" S_law ["_law_script"]
  mkL : Mk K C m_init.f
  a_filled : NoAttr K C "filled"
  a_great : NoAttr K C "great"
  a_idle : NoAttr K C "idle"
  a_own_must : NoAttr K C "own_must"
  a_own_spans : NoAttr K C "own_spans"
  a_taken : NoAttr K C "taken"
  n_all : mg "all" = none
  n_bool : mg "bool" = none
  n_enumerate : mg "enumerate" = none
  n_int : mg "int" = none
  n_isinstance : mg "isinstance" = none
  n_len : mg "len" = none
  n_list : mg "list" = none
  n_max : mg "max" = none
  n_min : mg "min" = none
  n_range : mg "range" = none
  n_set : mg "set" = none
  n_sorted : mg "sorted" = none
  n_str : mg "str" = none
  n_sum : mg "sum" = none
  n_tuple : mg "tuple" = none
  n_zip : mg "zip" = none
  t_MOST_PRICES : Tok
  c_MOST_PRICES : mg "MOST_PRICES" = some (.int 48 t_MOST_PRICES)
  t_GREATEST_PRICE : Tok
  c_GREATEST_PRICE : mg "GREATEST_PRICE" = some (.int 10000000000000 t_GREATEST_PRICE)
  t_FARTHEST : Tok
  c_FARTHEST : mg "FARTHEST" = some (.int 1000000000000 t_FARTHEST)
end BW
/-! The plain defs: numbers, stretches, loads, choices. -/
namespace BW
open PySem L2 Evl
local macro_rules | `(tactic| walk_at "at") => `(tactic| first | rfl | assumption | exact atI_nat (by assumption))
local macro_rules | `(tactic| walk_at "rv") => `(tactic| first | exact rv_I0 | exact rv_eq rfl | exact rv_ne rfl | exact rv_isN | exact rv_notN | exact rv_notB | exact rv_ixL (by assumption) (by walk_at "at") | exact rv_ixT (by assumption) (by walk_at "at") | exact rv_I (by omega))
local macro_rules | `(tactic| walk_at "ev") => `(tactic| first | exact ev_c | exact ev_var rfl | assumption | (apply ev_chain; walk_at "ev"; walk_at "ev"; walk_at "rv"; walk_at "ev"; walk_at "rv") | (apply ev_op; walk_at "ev"; walk_at "ev"; walk_at "rv"))
section
variable {P : Program} {w : World} {K : Frg} {mg : Str → Option Value} {base : Heap}
/-! ### is_whole -/
def sp_is_whole : Sp := fun vs H Q _ => ∃ i : Int, vs = [.int i] ∧ RetV (.bl true) H Q
theorem ok_is_whole (T : Txt K mg) : FnOk P w K mg base CX0 1 T.d_is_whole.f T.d_is_whole.fd ["thing"] sp_is_whole := by
  refine T.d_is_whole.F.ok sc_is_whole (fun vs H Q E h => ?_) (fun cdv A outer s H vs Q E hr h => ?_)
  · obtain ⟨i, rfl, _⟩ := h
    rfl
  · obtain ⟨i, rfl, q⟩ := h
    refine ⟨_, (pss_one (ps_ret (pe_and (pe_callB (kIsi K) rfl T.n_isinstance (by decide +kernel) (pa_cons (pv 0) (pa_cons (pe_bltn (v := .ty "int") rfl T.n_int (by decide +kernel) rfl) pa_nil))) (pe_one (pe_not (pe_callB (kIsi K) rfl T.n_isinstance (by decide +kernel) (pa_cons (pv 0) (pa_cons (pe_bltn (v := .ty "bool") rfl T.n_bool (by decide +kernel) rfl) pa_nil)))))))), ?_⟩
    refine s_ret (v := .bl true) ?_ q
    refine ev_andV (a := true) (b := true) (ev_cb (ea_cons (ev_var rfl) (ea_cons ev_c ea_nil)) (rc_isi (.ty _) (fun _ _ => .base (.int i)) (kit_ty (by decide +kernel)))) fun _ => ?_
    exact ev_notV (a := false) (ev_cb (ea_cons (ev_var rfl) (ea_cons ev_c ea_nil)) (rc_isi (.ty _) (fun _ _ => .base (.int i)) (kit_ty (by decide +kernel))))
theorem spv_is_whole {i : Int} {H : Hp} : SpV sp_is_whole [.int i] H (.bl true) := fun H1 _ Q q _ => ⟨i, rfl, q⟩
/-! ### is_over -/
def sp_is_over (K : Frg) : Sp := fun vs H Q _ => ∃ (x : V) (s : Sp3) (m : Int), vs = [x, .int m] ∧ rStt K H x s ∧ RetV (.bl (over s m)) H Q
theorem ok_is_over (T : Txt K mg) : FnOk P w K mg base CX0 1 T.d_is_over.f T.d_is_over.fd ["stretch", "moment"] (sp_is_over K) := by
  refine T.d_is_over.F.ok sc_is_over (fun vs H Q E h => ?_) (fun cdv A outer s H vs Q E hr h => ?_)
  · obtain ⟨x, s, m, rfl, _⟩ := h
    rfl
  · obtain ⟨x, s, m, rfl, ⟨t, n, rfl, hs⟩, q⟩ := h
    refine ⟨_, (pss_one (ps_ret (pe_chain op_le op_lt (pe_ix (kIxT K) (pv 0) pe_int (fun _ _ => rfl)) (pv 1) (pe_ix (kIxT K) (pv 0) pe_int (fun _ _ => rfl))))), ?_⟩
    refine s_ret (v := .bl (over s m)) ?_ q
    unfold over
    walk_at "ev"
theorem spv_is_over {x : V} {s : Sp3} {m : Int} {H : Hp} (h : rStt K H x s) : SpV (sp_is_over K) [x, .int m] H (.bl (over s m)) := fun H1 e Q q _ => ⟨x, s, m, rfl, Mono.mono e h, q⟩
/-! ### moments_of -/
def sp_moments_of (K : Frg) : Sp := fun vs H Q _ => ∃ (x : V) (bk : Bk), vs = [x] ∧ rLst K (rStt K) H x bk ∧ bk.length ≤ 24 ∧ ∀ ms, IsMs bk ms → ms.length ≤ bk.length + bk.length → RetN (fun G v => rLst K rInt G v ms) H Q
theorem ok_moments_of (T : Txt K mg) : FnOk P w K mg base CX0 1 T.d_moments_of.f T.d_moments_of.fd ["book"] (sp_moments_of K) := by
  refine T.d_moments_of.F.ok sc_moments_of (fun vs H Q E h => ?_) (fun cdv A outer s H vs Q E hr h => ?_)
  · obtain ⟨x, bk, rfl, _⟩ := h
    rfl
  · obtain ⟨x, bk, rfl, hx, few, q⟩ := h
    refine ⟨_, (pss_one (ps_ret (pe_callB (kSortedSet w rfl) rfl T.n_sorted (by decide +kernel) (pa_cons (pe_callTy (kSetI w K rfl) rfl T.n_set (by decide +kernel) (pa_cons (pe_op op_cat (pe_lc (own := [("stretch", 1)]) (g := gName 1) (tt := tYes) rfl sc_moments_of.nd (kPiL K (pv 0)) (blkOk_by (own := [("stretch", 1)]) (N := N_moments_of) (sc := defScope S_moments_of) (by decide +kernel)) (fun _ _ _ _ _ => (pg_name (i := 1) sc_moments_of.nd rfl (Or.inl rfl))) (fun _ _ _ _ _ => pts_nil) (fun _ _ _ _ _ => (pe_ix (kIxT K) (pv 1) pe_int (fun _ _ => rfl)))) (pe_lc (own := [("stretch", 1)]) (g := gName 1) (tt := tYes) rfl sc_moments_of.nd (kPiL K (pv 0)) (blkOk_by (own := [("stretch", 1)]) (N := N_moments_of) (sc := defScope S_moments_of) (by decide +kernel)) (fun _ _ _ _ _ => (pg_name (i := 1) sc_moments_of.nd rfl (Or.inl rfl))) (fun _ _ _ _ _ => pts_nil) (fun _ _ _ _ _ => (pe_ix (kIxT K) (pv 1) pe_int (fun _ _ => rfl))))) pa_nil)) pa_nil)))), ?_⟩
    refine el_sorted (K := K) (ns := bk.map (·.1) ++ bk.map (·.2.1)) (H := H) ?_ (by simp; omega) (Ex.refl H) fun p ms H2 e hp h2 i m l => ?_
    · rw [List.map_append, List.map_map, List.map_map]
      refine el_cat ?_ ?_ (by simp; omega)
      · have h1 := el_lcT (K := K) (R := rStt K) (vs := [1]) (σ := start N_moments_of [x]) (fun _ : Sp3 => true) (fun s => V.int s.1) (fun v _ => (wipe (start N_moments_of [x]) [1]).set 1 (some v)) (te := tOp (rIxT K) (tVar 1) (tC (.int 1))) (t := tYes) (g := gName 1) (tl := tVar 0) (ev_var rfl) hx (by omega) (fun _ _ _ => rfl) (fun _ _ _ _ => tg_name)
          (fun v a H1 e _ _ => fun H2 _ Q q => q H2 (Ex.refl _)) fun v a H1 e _ r _ => by
            obtain ⟨t, n, rfl, ht⟩ := Mono.mono (R := rStt K) e r
            exact ev_op (ev_var rfl) ev_c (rv_ixT ht rfl)
        rw [List.filter_eq_self.mpr fun _ _ => rfl] at h1
        exact h1
      · have h1 := el_lcT (K := K) (R := rStt K) (vs := [1]) (σ := start N_moments_of [x]) (fun _ : Sp3 => true) (fun s => V.int s.2.1) (fun v _ => (wipe (start N_moments_of [x]) [1]).set 1 (some v)) (te := tOp (rIxT K) (tVar 1) (tC (.int 2))) (t := tYes) (g := gName 1) (tl := tVar 0) (ev_var rfl) hx (by omega) (fun _ _ _ => rfl) (fun _ _ _ _ => tg_name)
          (fun v a H1 e _ _ => fun H2 _ Q q => q H2 (Ex.refl _)) fun v a H1 e _ r _ => by
            obtain ⟨t, n, rfl, ht⟩ := Mono.mono (R := rStt K) e r
            exact ev_op (ev_var rfl) ev_c (rv_ixT ht rfl)
        rw [List.filter_eq_self.mpr fun _ _ => rfl] at h1
        exact h1
    · exact q ms ⟨i, m⟩ (by simpa using l) _ H2 e (rLst_new hp h2 (int_all2 ms))
theorem spn_moments_of {x : V} {bk : Bk} {H : Hp} (h : rLst K (rStt K) H x bk) (few : bk.length ≤ 24) {H1 : Hp} (e : Ex H H1) {Q : VK} {E : XK} (q : ∀ ms, IsMs bk ms → ms.length ≤ bk.length + bk.length → RetN (fun G v => rLst K rInt G v ms) H1 Q) : sp_moments_of K [x] H1 Q E := ⟨x, bk, rfl, Mono.mono e h, few, q⟩
/-! ### load_at, worth_of -/
def sp_load_at (K : Frg) : Sp := fun vs H Q _ => ∃ (x y : V) (bk : Bk) (c : List Nat) (m : Int), vs = [x, y, .int m] ∧ rLst K (rStt K) H x bk ∧ rLst K rNat H y c ∧ (∀ i ∈ c, i < bk.length) ∧ c.length ≤ 1000 ∧ RetV (.int (load bk c m : Int)) H Q
theorem ok_load_at (T : Txt K mg) : FnOk P w K mg base CX0 2 T.d_load_at.f T.d_load_at.fd ["book", "some", "moment"] (sp_load_at K) := by
  refine T.d_load_at.F.ok sc_load_at (fun vs H Q E h => ?_) (fun cdv A outer s H vs Q E hr h => ?_)
  · obtain ⟨x, y, bk, c, m, rfl, _⟩ := h
    rfl
  · obtain ⟨x, y, bk, c, m, rfl, hx, hy, hc, few, q⟩ := h
    refine ⟨_, (pss_one (ps_ret (pe_callB (kLen K) rfl T.n_len (by decide +kernel) (pa_cons (pe_lc (own := [("number", 3)]) (g := gName 3) rfl sc_load_at.nd (kPiL K (pv 1)) (blkOk_by (own := [("number", 3)]) (N := N_load_at) (sc := defScope S_load_at) (by decide +kernel)) (fun _ _ _ _ _ => (pg_name (i := 3) sc_load_at.nd rfl (Or.inl rfl))) (fun _ _ _ _ _ => (pts_one (pt_val (pe_call (ok_is_over T) (hr.mono (by decide)) rfl T.d_is_over.m T.d_is_over.F.kp T.d_is_over.b .nil pass0 (pa_cons (pe_ix (kIxL K) (pv 0) (pv 3) (fun _ _ => rfl)) (pa_cons (pv 2) pa_nil)))))) (fun _ _ _ _ _ => (pv 3))) pa_nil)))), ?_⟩
    refine s_ret (v := .int (load bk c m : Int)) ?_ q
    refine evl_cb (el_lcT (R := rNat) (fun i => over (stt bk i) m) (fun i : Nat => V.int (i : Int)) (fun v _ => (wipe (start N_load_at [x, y, .int m]) [3]).set 3 (some v)) (ev_var rfl) hy (by omega) (fun _ _ _ => rfl) (fun _ _ _ _ => tg_name)
      (fun v a H1 e ha r => ?_) fun v a H1 e _ r _ => ?_) fun p H1 h1 => ?_
    · have r' : v = .int (a : Int) := r
      subst r'
      obtain ⟨z, rz, hz⟩ := bk_ix (σ := (wipe (start N_load_at [x, y, .int m]) [3]).set 3 (some (.int (a : Int)))) (Mono.mono e hx) (ta := tVar 0) (tb := tVar 3) (ev_var rfl) (ev_var rfl) (hc a ha)
      exact et_B (ev_call (ea_cons hz (ea_cons (ev_var rfl) ea_nil)) (spv_is_over rz))
    · have r' : v = .int (a : Int) := r
      subst r'
      exact ev_var rfl
    · have := rc_len (K := K) (sq_of h1)
      rw [List.length_map] at this
      exact this
theorem spv_load_at {x y : V} {bk : Bk} {c : List Nat} {m : Int} {H : Hp} (hx : rLst K (rStt K) H x bk) (hy : rLst K rNat H y c) (hc : ∀ i ∈ c, i < bk.length) (few : c.length ≤ 1000) : SpV (sp_load_at K) [x, y, .int m] H (.int (load bk c m : Int)) :=
  fun H1 e Q q _ => ⟨x, y, bk, c, m, rfl, Mono.mono e hx, Mono.mono e hy, hc, few, q⟩
def sp_worth_of (K : Frg) : Sp := fun vs H Q _ => ∃ (x y : V) (bk : Bk) (c : List Nat), vs = [x, y] ∧ rLst K (rStt K) H x bk ∧ rLst K rNat H y c ∧ (∀ i ∈ c, i < bk.length) ∧ c.length ≤ 1000 ∧ RetV (.int (worth bk c)) H Q
theorem ok_worth_of (T : Txt K mg) : FnOk P w K mg base CX0 1 T.d_worth_of.f T.d_worth_of.fd ["book", "some"] (sp_worth_of K) := by
  refine T.d_worth_of.F.ok sc_worth_of (fun vs H Q E h => ?_) (fun cdv A outer s H vs Q E hr h => ?_)
  · obtain ⟨x, y, bk, c, rfl, _⟩ := h
    rfl
  · obtain ⟨x, y, bk, c, rfl, hx, hy, hc, few, q⟩ := h
    refine ⟨_, (pss_one (ps_ret (pe_callB (kSum K rfl) rfl T.n_sum (by decide +kernel) (pa_cons (pe_lc (own := [("number", 2)]) (g := gName 2) (tt := tYes) rfl sc_worth_of.nd (kPiL K (pv 1)) (blkOk_by (own := [("number", 2)]) (N := N_worth_of) (sc := defScope S_worth_of) (by decide +kernel)) (fun _ _ _ _ _ => (pg_name (i := 2) sc_worth_of.nd rfl (Or.inl rfl))) (fun _ _ _ _ _ => pts_nil) (fun _ _ _ _ _ => (pe_ix (kIxT K) (pe_ix (kIxL K) (pv 0) (pv 2) (fun _ _ => rfl)) pe_int (fun _ _ => rfl)))) pa_nil)))), ?_⟩
    refine s_ret (v := .int (worth bk c)) ?_ q
    refine evl_cb (el_lcT (R := rNat) (fun _ => true) (fun i : Nat => V.int (stt bk i).2.2) (fun v _ => (wipe (start N_worth_of [x, y]) [2]).set 2 (some v)) (ev_var rfl) hy (by omega) (fun _ _ _ => rfl) (fun _ _ _ _ => tg_name)
      (fun v a H1 e ha r => fun H2 _ Q q => q H2 (Ex.refl _)) fun v a H1 e ha r _ => ?_) fun p H1 h1 => ?_
    · have r' : v = .int (a : Int) := r
      subst r'
      obtain ⟨z, rz, hz⟩ := bk_ix (σ := (wipe (start N_worth_of [x, y]) [2]).set 2 (some (.int (a : Int)))) (Mono.mono e hx) (ta := tVar 0) (tb := tVar 2) (ev_var rfl) (ev_var rfl) (hc a ha)
      obtain ⟨t, n, rfl, ht⟩ := rz
      exact ev_op hz ev_c (rv_ixT ht rfl)
    · rw [List.filter_eq_self.mpr fun _ _ => rfl] at h1
      refine rc_sum (ns := c.map fun i => (stt bk i).2.2) (sq_of ?_)
      rw [List.map_map]
      exact h1
theorem spv_worth_of {x y : V} {bk : Bk} {c : List Nat} {H : Hp} (hx : rLst K (rStt K) H x bk) (hy : rLst K rNat H y c) (hc : ∀ i ∈ c, i < bk.length) (few : c.length ≤ 1000) : SpV (sp_worth_of K) [x, y] H (.int (worth bk c)) :=
  fun H1 e Q q _ => ⟨x, y, bk, c, rfl, Mono.mono e hx, Mono.mono e hy, hc, few, q⟩
end
end BW
/-! Loads, the crowd, choices. -/
namespace BW
open PySem L2 Evl
local macro_rules | `(tactic| walk_at "at") => `(tactic| first | rfl | assumption | exact atI_nat (by assumption))
local macro_rules | `(tactic| walk_at "rv") => `(tactic| first | exact rv_I0 | exact rv_eq rfl | exact rv_ne rfl | exact rv_isN | exact rv_notN | exact rv_notB | exact rv_ixL (by assumption) (by walk_at "at") | exact rv_ixT (by assumption) (by walk_at "at") | exact rv_I (by omega))
local macro_rules | `(tactic| walk_at "ev") => `(tactic| first | exact ev_c | exact ev_var rfl | assumption | (apply ev_chain; walk_at "ev"; walk_at "ev"; walk_at "rv"; walk_at "ev"; walk_at "rv") | (apply ev_op; walk_at "ev"; walk_at "ev"; walk_at "rv"))
section
variable {P : Program} {w : World} {K : Frg} {mg : Str → Option Value} {base : Heap}
/-! ### loads_of -/
def sp_loads_of (K : Frg) : Sp := fun vs H Q _ => ∃ (x y : V) (bk : Bk) (c : List Nat), vs = [x, y] ∧ rLst K (rStt K) H x bk ∧ rLst K rNat H y c ∧ (∀ i ∈ c, i < bk.length) ∧ c.length ≤ 24 ∧
  ∀ ms, (∀ i ∈ c, (stt bk i).1 ∈ ms) → RetN (fun G v => rLst K (rII K) G v (loadsL (load bk c) 0 ms)) H Q
theorem ends_of {σ : L2.St} {H : Hp} {x y : V} {bk : Bk} {c : List Nat} {ta tb : TE} {j : Nat} {vs : List Nat} (k : Int) (f : Sp3 → Int) (hf : ∀ (n : Str) (s : Sp3), atI [V.str n, V.int s.1, V.int s.2.1, V.int s.2.2] k = some (V.int (f s))) (hx : rLst K (rStt K) H x bk) (hy : rLst K rNat H y c) (hc : ∀ i ∈ c, i < bk.length) (few : c.length ≤ 1000)
    (ha : Ev ta σ H y) (hw : ∀ v, wipe ((wipe σ vs).set j (some v)) vs = wipe σ vs) (hb : ∀ v, Ev tb ((wipe σ vs).set j (some v)) H x) (hv : ∀ v, Ev (tVar j) ((wipe σ vs).set j (some v)) H v) :
    EvL (tLc (iList K ta) (gName j) tYes (tOp (rIxT K) (tOp (rIxL K) tb (tVar j)) (tC (.int k))) vs) σ H ((c.map fun i => f (stt bk i)).map V.int) := by
  have h1 := el_lcT (K := K) (R := rNat) (fun _ : Nat => true) (fun i => V.int (f (stt bk i))) (fun v _ => (wipe σ vs).set j (some v)) (te := tOp (rIxT K) (tOp (rIxL K) tb (tVar j)) (tC (.int k))) (t := tYes) (g := gName j) ha hy (by omega) (fun v _ _ => hw v) (fun _ _ _ _ => tg_name)
    (fun v a H1 e _ _ => fun H2 _ Q q => q H2 (Ex.refl _)) fun v a H1 e hm r _ => by
      have r' : v = .int (a : Int) := r
      subst r'
      obtain ⟨z, ⟨t, n, rfl, ht⟩, hz⟩ := bk_ix (Mono.mono e hx) ((hb (.int (a : Int))).mono e) ((hv (.int (a : Int))).mono e) (hc a hm)
      exact ev_op hz ev_c (rv_ixT ht (hf n _))
  rw [List.filter_eq_self.mpr fun _ _ => rfl] at h1
  rw [List.map_map]
  exact h1
theorem ok_loads_of (T : Txt K mg) : FnOk P w K mg base CX0 3 T.d_loads_of.f T.d_loads_of.fd ["book", "some"] (sp_loads_of K) := by
  refine T.d_loads_of.F.ok sc_loads_of (fun vs H Q E h => ?_) (fun cdv A outer s H vs Q E hr h => ?_)
  · obtain ⟨x, y, bk, c, rfl, _⟩ := h
    rfl
  · obtain ⟨x, y, bk, c, rfl, hx, hy, hc, few, q⟩ := h
    refine ⟨_, (pss_cons (ps_set (i := 2) sc_loads_of.nd rfl (Or.inl rfl) (pe_op op_cat (pe_lc (own := [("number", 7)]) (g := gName 7) (tt := tYes) rfl sc_loads_of.nd (kPiL K (pv 1)) (blkOk_by (own := [("number", 7)]) (N := N_loads_of) (sc := defScope S_loads_of) (by decide +kernel)) (fun _ _ _ _ _ => (pg_name (i := 7) sc_loads_of.nd rfl (Or.inl rfl))) (fun _ _ _ _ _ => pts_nil) (fun _ _ _ _ _ => (pe_ix (kIxT K) (pe_ix (kIxL K) (pv 0) (pv 7) (fun _ _ => rfl)) pe_int (fun _ _ => rfl)))) (pe_lc (own := [("number", 7)]) (g := gName 7) (tt := tYes) rfl sc_loads_of.nd (kPiL K (pv 1)) (blkOk_by (own := [("number", 7)]) (N := N_loads_of) (sc := defScope S_loads_of) (by decide +kernel)) (fun _ _ _ _ _ => (pg_name (i := 7) sc_loads_of.nd rfl (Or.inl rfl))) (fun _ _ _ _ _ => pts_nil) (fun _ _ _ _ _ => (pe_ix (kIxT K) (pe_ix (kIxL K) (pv 0) (pv 7) (fun _ _ => rfl)) pe_int (fun _ _ => rfl))))))
      (pss_cons (ps_set (i := 3) sc_loads_of.nd rfl (Or.inl rfl) (pe_lst pa_nil))
      (pss_cons (ps_set (i := 4) sc_loads_of.nd rfl (Or.inl rfl) pe_int)
      (pss_cons (ps_for PassesOwn.never rfl (kPiL K (pe_callB (kSortedSet w rfl) rfl T.n_sorted (by decide +kernel) (pa_cons (pe_callTy (kSetI w K rfl) rfl T.n_set (by decide +kernel) (pa_cons (pv 2) pa_nil)) pa_nil))) (pg_name (i := 5) sc_loads_of.nd rfl (Or.inl rfl))
      (pss_cons (ps_set (i := 6) sc_loads_of.nd rfl (Or.inl rfl) (pe_call (ok_load_at T) (hr.mono (by decide)) rfl T.d_load_at.m T.d_load_at.F.kp T.d_load_at.b .nil pass0 (pa_cons (pv 0) (pa_cons (pv 1) (pa_cons (pv 5) pa_nil)))))
      (pss_cons (ps_if (pt_cmpR op_ne (pv 6) (pv 4) (nomark _)) (pss_one (ps_expr (kBM K (pe_bm PySem.F.plainAttrs_list PySem.F.slot_list_append PySem.F.type_list_append mt_append (pv 3) (pa_cons (pe_tup (pa_cons (pv 5) (pa_cons (pv 6) pa_nil))) pa_nil))))) pss_nil)
      (pss_one (ps_set (i := 4) sc_loads_of.nd rfl (Or.inl rfl) (pv 6))))))
      (pss_one (ps_ret (pv 3))))))), ?_⟩
    have h1 := ends_of (σ := start N_loads_of [x, y]) (vs := [7]) (j := 7) (ta := tVar 1) (tb := tVar 0) 1 (fun s => s.1) (fun _ _ => rfl) hx hy hc (by omega) (ev_var rfl) (fun _ => rfl) (fun _ => ev_var rfl) (fun _ => ev_var rfl)
    have h2 := ends_of (σ := start N_loads_of [x, y]) (vs := [7]) (j := 7) (ta := tVar 1) (tb := tVar 0) 2 (fun s => s.2.1) (fun _ _ => rfl) hx hy hc (by omega) (ev_var rfl) (fun _ => rfl) (fun _ => ev_var rfl) (fun _ => ev_var rfl)
    refine q_asgL (el_cat h1 h2 (by simp; omega)) fun pe H1 hpe e1 k1 => ?_
    refine q_asgL (el_lst ea_nil (by decide)) fun pf H2 hpf e2 k2 => ?_
    refine q_asg ev_c fun H3 e3 => ?_
    have e02 := e1.trans e2
    have hpf0 : H pf = none := fresh_back e1 hpf
    refine ev_sorted (K := K) (H := H3) (a := pe) (ns := c.map (fun i => (stt bk i).1) ++ c.map fun i => (stt bk i).2.1) (ev_var rfl) (sq_of (by rw [List.map_append]; exact e3 _ _ (e2 _ _ k1))) (by simp; omega) (Ex.refl _) fun p ms H4 e4 hp h4 inc mem few2 => ?_
    refine ⟨p, rfl, ⟨_, sq_of h4⟩, for_list (xs := ms.map V.int) (fun i σ' H' => ∃ v5 v6, σ' = [some x, some y, some (.ref pe), some (.ref pf), some (.int (lastL (load bk c) 0 (ms.take i))), v5, v6, none] ∧ Ex H H' ∧ H' p = some (.lst (ms.map V.int)) ∧
      ∃ acc, H' pf = some (.lst acc) ∧ acc.length ≤ i ∧ All2 (rII K (New (upd H pf (.lst [])) H')) acc (loadsL (load bk c) 0 (ms.take i))) ?_ (fun i σ' H' _ ⟨_, _, _, _, hh, _⟩ => sq_of hh) ?_ ?_⟩
    · exact ⟨none, none, rfl, (e02.trans e3).trans e4, h4, [], e4 _ _ (e3 _ _ k2), Nat.zero_le _, All2.nil⟩
    · rintro i v σ' H' hi ⟨v5, v6, rfl, eH, hp', acc, hf, hlen, hA⟩
      rw [List.getElem?_map] at hi
      obtain ⟨m, hm, rfl⟩ := Option.map_eq_some_iff.mp hi
      have hi2 : i < ms.length := (List.getElem?_eq_some_iff.mp hm).1
      have tk : ms.take (i + 1) = ms.take i ++ [m] := by rw [List.take_add_one, hm]; rfl
      have hms : ms.length ≤ 60 := by simp at few2; omega
      show tSeq _ _ _ _ _
      refine q_asg (ev_call (ea_cons (ev_var rfl) (ea_cons (ev_var rfl) (ea_cons (ev_var rfl) ea_nil))) (spv_load_at (Mono.mono eH hx) (Mono.mono eH hy) hc (by omega))) fun H5 e5 => ?_
      have s5 : Sub (upd H pf (.lst [])) H5 := Sub.upd ((Sub.of eH).ex e5) (e5 _ _ hf)
      refine q_when (b := !decide (V.int (load bk c m : Int) = V.int (lastL (load bk c) 0 (ms.take i)))) (et_test (ev_op (ev_var rfl) (ev_var rfl) (rv_ne rfl))) (fun hb H6 e6 => ?_) fun hb H6 e6 => ?_
      · have hne : (load bk c m : Int) ≠ lastL (load bk c) 0 (ms.take i) := fun q => by rw [q] at hb; simp at hb
        refine s_appU (l := pf) (xs := acc) (ys := [.int m, .int (load bk c m : Int)]) (e6 _ _ (e5 _ _ hf)) (ev_var rfl) (eu_tup (ea_cons (ev_var rfl) (ea_cons (ev_var rfl) ea_nil)) (by simp)) (by omega) fun t H7 ht e7 k7 => ?_
        refine s_asg (v := .int (load bk c m : Int)) (ev_var rfl) fun H8 e8 => ?_
        have eH8 : Ex H (upd H7 pf (.lst (acc ++ [.ref t]))) := Ex.mut (((eH.trans e5).trans e6).trans e7) hpf0
        refine ⟨some (.int m), some (.int (load bk c m : Int)), by rw [tk, lastL_snoc]; rfl, eH8.trans e8, e8 _ _ ?_, acc ++ [.ref t], e8 _ _ upd_same, by simp; omega, ?_⟩
        · have np : p ≠ pf := fun q => by
            rw [q] at hp
            rw [e3 _ _ k2] at hp
            cases hp
          rw [upd_ne np]
          exact e7 _ _ (e6 _ _ (e5 _ _ hp'))
        · rw [tk, loadsL_snoc, if_pos hne]
          refine All2.snoc (hA.mono fun _ _ => Mono.mono ?_) ⟨t, rfl, st_of ?_⟩
          · have a1 : Ex (New (upd H pf (.lst [])) H') (New (upd H pf (.lst [])) H7) := new_mono ((e5.trans e6).trans e7)
            have a2 : New (upd H pf (.lst [])) (upd H7 pf (.lst (acc ++ [.ref t]))) = New (upd H pf (.lst [])) H7 := new_mut upd_same
            rw [← a2] at a1
            exact a1.trans (new_mono e8)
          · have h6t : H6 t = none := ht
            have n2 : t ≠ pf := fun q => by
              rw [q, e6 _ _ (e5 _ _ hf)] at h6t
              cases h6t
            rw [new_of (by rw [upd_ne n2]; exact fresh_back ((eH.trans e5).trans e6) h6t)]
            exact e8 _ _ (by rw [upd_ne n2]; exact k7)
      · have he : (load bk c m : Int) = lastL (load bk c) 0 (ms.take i) := by simpa using hb
        refine s_asg (v := .int (load bk c m : Int)) (ev_var rfl) fun H7 e7 => ?_
        refine ⟨some (.int m), some (.int (load bk c m : Int)), by rw [tk, lastL_snoc]; rfl, ((eH.trans e5).trans e6).trans e7, e7 _ _ (e6 _ _ (e5 _ _ hp')), acc, e7 _ _ (e6 _ _ (e5 _ _ hf)), by omega, ?_⟩
        rw [tk, loadsL_snoc, if_neg (fun q => q he), List.append_nil]
        exact hA.mono fun _ _ => Mono.mono (new_mono ((e5.trans e6).trans e7))
    · rintro σ' H' ⟨v5, v6, rfl, eH, hp', acc, hf, hlen, hA⟩
      rw [List.length_map, List.take_length] at hA
      refine s_ret (v := .ref pf) (ev_var rfl) fun H5 e5 => ?_
      refine q ms (ms_load_mem mem) _ H5 (eH.trans e5) (rLst_new hpf0 (e5 _ _ hf) (hA.mono fun _ _ => Mono.mono ((new_base fun b hb => ?_).trans (new_mono e5))))
      by_cases eb : b = pf
      · rw [eb]; exact hpf0
      · rw [upd_ne eb] at hb; exact hb
end
end BW
/-! The crowd, choices. -/
namespace BW
open PySem L2 Evl
local macro_rules | `(tactic| walk_at "at") => `(tactic| first | rfl | assumption | exact atI_nat (by assumption))
local macro_rules | `(tactic| walk_at "rv") => `(tactic| first | exact rv_I0 | exact rv_eq rfl | exact rv_ne rfl | exact rv_isN | exact rv_notN | exact rv_notB | exact rv_ixL (by assumption) (by walk_at "at") | exact rv_ixT (by assumption) (by walk_at "at") | exact rv_I (by omega))
local macro_rules | `(tactic| walk_at "ev") => `(tactic| first | exact ev_c | exact ev_var rfl | assumption | (apply ev_chain; walk_at "ev"; walk_at "ev"; walk_at "rv"; walk_at "ev"; walk_at "rv") | (apply ev_op; walk_at "ev"; walk_at "ev"; walk_at "rv"))
section
variable {P : Program} {w : World} {K : Frg} {mg : Str → Option Value} {base : Heap}
/-! ### crowd_of -/
def rCrowd (K : Frg) : Rep Nat := fun H v g => ∃ t p q, v = .ref t ∧ SqT K H t [.int (g : Int), p, q]
instance mCrowd : Mono (rCrowd K) := ⟨fun e ⟨t, p, q, h1, h2⟩ => ⟨t, p, q, h1, ex_t e h2⟩⟩
def sp_crowd_of (K : Frg) : Sp := fun vs H Q _ => ∃ (x y : V) (bk : Bk) (c : List Nat), vs = [x, y] ∧ rLst K (rStt K) H x bk ∧ rLst K rNat H y c ∧ (∀ i ∈ c, i < bk.length) ∧ c.length ≤ 24 ∧ RetN (fun G v => rCrowd K G v (crowd bk c)) H Q
theorem ok_crowd_of (T : Txt K mg) : FnOk P w K mg base CX0 4 T.d_crowd_of.f T.d_crowd_of.fd ["book", "some"] (sp_crowd_of K) := by
  refine T.d_crowd_of.F.ok sc_crowd_of (fun vs H Q E h => ?_) (fun cdv A outer s H vs Q E hr h => ?_)
  · obtain ⟨x, y, bk, c, rfl, _⟩ := h
    rfl
  · obtain ⟨x, y, bk, c, rfl, hx, hy, hc, few, q⟩ := h
    refine ⟨_, (pss_cons (ps_set (i := 2) sc_crowd_of.nd rfl (Or.inl rfl) pe_int)
      (pss_cons (ps_set (i := 3) sc_crowd_of.nd rfl (Or.inr rfl) pe_non)
      (pss_cons (ps_for PassesOwn.never rfl (kPiL K (pe_call (ok_loads_of T) (hr.mono (by decide)) rfl T.d_loads_of.m T.d_loads_of.F.kp T.d_loads_of.b .nil pass0 (pa_cons (pv 0) (pa_cons (pv 1) pa_nil)))) (kPgT (n := 2) K (pg_tup rfl (pgs_cons (pg_name (i := 4) sc_crowd_of.nd rfl (Or.inl rfl)) (pgs_cons (pg_name (i := 5) sc_crowd_of.nd rfl (Or.inl rfl)) pgs_nil))))
      (pss_one (ps_if (pt_cmpR op_gt (pv 5) (pv 2) (nomark _)) (pss_cons (ps_set (i := 2) sc_crowd_of.nd rfl (Or.inl rfl) (pv 5))
      (pss_one (ps_set (i := 3) sc_crowd_of.nd rfl (Or.inr rfl) (pv 4)))) pss_nil)))
      (pss_cons (ps_if (pt_cmpR op_isN (pv 3) pe_non (nomark _)) (pss_one (ps_ret (pe_tup (pa_cons pe_int (pa_cons pe_non (pa_cons (pe_lst pa_nil) pa_nil)))))) pss_nil)
      (pss_one (ps_ret (pe_tup (pa_cons (pv 2) (pa_cons (pv 3) (pa_cons (pe_lc (own := [("number", 6)]) (g := gName 6) rfl sc_crowd_of.nd (kPiL K (pv 1)) (blkOk_by (own := [("number", 6)]) (N := N_crowd_of) (sc := defScope S_crowd_of) (by decide +kernel)) (fun _ _ _ _ _ => (pg_name (i := 6) sc_crowd_of.nd rfl (Or.inl rfl))) (fun _ _ _ _ _ => (pts_one (pt_val (pe_call (ok_is_over T) (hr.mono (by decide)) rfl T.d_is_over.m T.d_is_over.F.kp T.d_is_over.b .nil pass0 (pa_cons (pe_ix (kIxL K) (pv 0) (pv 6) (fun _ _ => rfl)) (pa_cons (pv 3) pa_nil)))))) (fun _ _ _ _ _ => (pv 6))) pa_nil)))))))))), ?_⟩
    refine q_asg ev_c fun H1 e1 => ?_
    refine q_asg ev_c fun H2 e2 => ?_
    have e02 := e1.trans e2
    refine ⟨_, rfl, _, rfl, x, y, bk, c, rfl, Mono.mono e02 hx, Mono.mono e02 hy, hc, few, fun ms hms v H3 e3 rv => ?_⟩
    have rv3 : rLst K (rII K) H3 v (loadsL (load bk c) 0 ms) := Mono.mono new_ex rv
    have eG := crowd_loads (bk := bk) (c := c) (ms := ms) hms
    obtain ⟨a, ws, rfl, hl, hA⟩ := rv3
    generalize loadsL (load bk c) 0 ms = L at hA eG
    have e03 := e02.trans e3
    refine ⟨a, rfl, ⟨_, hl⟩, for_list (xs := ws) (fun i σ' H' => ∃ fi v4 v5, σ' = [some x, some y, some (.int ((L.take i).foldl greater 0)), some fi, v4, v5, none] ∧ (fi = .non → (L.take i).foldl greater 0 = 0) ∧ (fi = .non ∨ ∃ m : Int, fi = .int m) ∧ Ex H3 H') ?_ (fun i σ' H' _ ⟨_, _, _, _, _, _, ee⟩ => ex_l ee hl) ?_ ?_⟩
    · exact ⟨.non, none, none, rfl, fun _ => rfl, .inl rfl, Ex.refl _⟩
    · rintro i v σ' H' hi ⟨fi, v4, v5, rfl, hn, hf, eH⟩
      obtain ⟨⟨m, l⟩, hb, t, rfl, ht⟩ := hA.of_v hi
      have tk : (L.take (i + 1)).foldl greater 0 = greater ((L.take i).foldl greater 0) (m, l) := by
        rw [List.take_add_one, hb, List.foldl_append]
        rfl
      refine tg_2 (ex_t eH ht) H' (Ex.refl _) _ ?_
      refine s_when (b := decide ((L.take i).foldl greater 0 < l)) (et_test (ev_op (ev_var rfl) (ev_var rfl) rv_I0)) (fun hb2 H4 e4 => ?_) fun hb2 H4 e4 => ?_
      · have hlt : l > (L.take i).foldl greater 0 := of_decide_eq_true hb2
        refine q_asg (v := .int l) (ev_var rfl) fun H5 e5 => ?_
        refine s_asg (v := .int m) (ev_var rfl) fun H6 e6 => ?_
        refine ⟨.int m, some (.int m), some (.int l), ?_, (fun z => nomatch z), .inr ⟨m, rfl⟩, ((eH.trans e4).trans e5).trans e6⟩
        have e7 : greater ((L.take i).foldl greater 0) (m, l) = l := if_pos hlt
        rw [tk, e7]
        rfl
      · have hlt : ¬ l > (L.take i).foldl greater 0 := of_decide_eq_false hb2
        have e6 : greater ((L.take i).foldl greater 0) (m, l) = (L.take i).foldl greater 0 := if_neg hlt
        refine ⟨fi, some (.int m), some (.int l), ?_, fun z => ?_, hf, eH.trans e4⟩
        · rw [tk, e6]
          rfl
        · rw [tk, e6]
          exact hn z
    · rintro σ' H' ⟨fi, v4, v5, rfl, hn, hf, eH⟩
      have hlen : ws.length = L.length := hA.1
      rw [hlen, List.take_length] at hn ⊢
      rw [eG] at hn ⊢
      have eH' := e03.trans eH
      refine q_when (b := decide (fi = .non)) (et_test (ev_op (ev_var rfl) ev_c rv_isN)) (fun hb H4 e4 => ?_) fun hb H4 e4 => ?_
      · have h0 := hn (of_decide_eq_true hb)
        have h0' : crowd bk c = 0 := by omega
        refine ⟨Nat.zero_le _, fun p hp => ?_⟩
        refine ⟨(by show 3 ≤ sizeLine; decide), fun t ht => ?_⟩
        have ht0 : H t = none := fresh_back (eH'.trans e4) (fresh_back (Ex.new hp) ht)
        refine q (.ref t) _ (((eH'.trans e4).trans (Ex.new hp)).trans (Ex.new ht)) ⟨t, .non, .ref p, rfl, st_of ?_⟩
        rw [h0', new_of ht0, upd_same]
        rfl
      · rcases hf with hf | ⟨m, rfl⟩
        · rw [hf] at hb
          simp at hb
        · refine ⟨_, rfl, _, rfl, ?_⟩
          refine el_lcT (R := rNat) (fun i => over (stt bk i) m) (fun i : Nat => V.int (i : Int)) (fun v _ => (wipe [some x, some y, some (.int (crowd bk c : Int)), some (.int m), v4, v5, none] [6]).set 6 (some v)) (ev_var rfl) (Mono.mono (eH'.trans e4) hy) (by omega) (fun _ _ _ => rfl) (fun _ _ _ _ => tg_name)
            (fun v a H5 e5 ha r => ?_) (fun v a H5 e5 _ r _ => ?_) H4 (Ex.refl _) _ fun p H5 hp e5 h5 => ⟨(by show 3 ≤ sizeLine; decide), fun t ht => ?_⟩
          · have r' : v = .int (a : Int) := r
            subst r'
            obtain ⟨z, rz, hz⟩ := bk_ix (σ := (wipe [some x, some y, some (.int (crowd bk c : Int)), some (.int m), v4, v5, none] [6]).set 6 (some (.int (a : Int)))) (Mono.mono ((eH'.trans e4).trans e5) hx) (ta := tVar 0) (tb := tVar 6) (ev_var rfl) (ev_var rfl) (hc a ha)
            exact et_B (ev_call (ea_cons hz (ea_cons (ev_var rfl) ea_nil)) (spv_is_over rz))
          · have r' : v = .int (a : Int) := r
            subst r'
            exact ev_var rfl
          · have ht0 : H t = none := fresh_back ((eH'.trans e4).trans e5) ht
            exact q (.ref t) _ (((eH'.trans e4).trans e5).trans (Ex.new ht)) ⟨t, .int m, .ref p, rfl, st_of (by rw [new_of ht0, upd_same])⟩
theorem spn_crowd_of {x y : V} {bk : Bk} {c : List Nat} {H : Hp} (hx : rLst K (rStt K) H x bk) (hy : rLst K rNat H y c) (hc : ∀ i ∈ c, i < bk.length) (few : c.length ≤ 24) : SpN (sp_crowd_of K) [x, y] H (fun G v => rCrowd K G v (crowd bk c)) :=
  fun H1 e Q q _ => ⟨x, y, bk, c, rfl, Mono.mono e hx, Mono.mono e hy, hc, few, q⟩
/-- crowd_of(..)[0] -/
theorem ev_crowd0 {σ : L2.St} {x y : V} {bk : Bk} {c : List Nat} {H : Hp} {ta : TA} (hx : rLst K (rStt K) H x bk) (hy : rLst K rNat H y c) (hc : ∀ i ∈ c, i < bk.length) (few : c.length ≤ 24) (ha : EvA ta σ H [x, y]) :
    Ev (tOp (rIxT K) (tCall (sp_crowd_of K) [] E0 ta) (tC (.int 0))) σ H (.int (crowd bk c : Int)) := fun H1 e Q q =>
  ha H1 e _ fun H2 e2 => spn_crowd_of hx hy hc few H2 (e.trans e2) _ (fun v H3 e3 r => by
    obtain ⟨t, a, b, rfl, ht⟩ := Mono.mono (R := rCrowd K) new_ex r
    exact ⟨t, _, 0, _, rfl, rfl, ht, rfl, q H3 (e2.trans e3)⟩) _
/-! ### is_some, is_choice -/
def sp_is_some (K : Frg) : Sp := fun vs H Q _ => ∃ (n : Nat) (y : V) (c : List Nat), vs = [.int (n : Int), y] ∧ rLst K rNat H y c ∧ c.length ≤ 24 ∧ ∀ b : Bool, (b = true ↔ Rising n c) → RetV (.bl b) H Q
theorem ok_is_some (T : Txt K mg) : FnOk P w K mg base CX0 2 T.d_is_some.f T.d_is_some.fd ["many", "thing"] (sp_is_some K) := by
  refine T.d_is_some.F.ok sc_is_some (fun vs H Q E h => ?_) (fun cdv A outer s H vs Q E hr h => ?_)
  · obtain ⟨n, y, c, rfl, _⟩ := h
    rfl
  · obtain ⟨n, y, c, rfl, hy, few, q⟩ := h
    obtain ⟨a, ws, rfl, hl, hA⟩ := id hy
    refine ⟨_, (pss_cons (ps_if (PW.pt (pw_or (pt_not (pt_val (pe_callB (kIsi K) rfl T.n_isinstance (by decide +kernel) (pa_cons (pv 1) (pa_cons (pe_bltn (v := .ty "list") rfl T.n_list (by decide +kernel) rfl) pa_nil))))) (pw_or1 (pt_not (pt_val (pe_callB (kAll K rfl) rfl T.n_all (by decide +kernel) (pa_cons (pe_lc (own := [("number", 3)]) (g := gName 3) (tt := tYes) rfl sc_is_some.nd (kPiL K (pv 1)) (blkOk_by (own := [("number", 3)]) (N := N_is_some) (sc := defScope S_is_some) (by decide +kernel)) (fun _ _ _ _ _ => (pg_name (i := 3) sc_is_some.nd rfl (Or.inl rfl))) (fun _ _ _ _ _ => pts_nil) (fun _ _ _ _ _ => (pe_call (ok_is_whole T) (hr.mono (by decide)) rfl T.d_is_whole.m T.d_is_whole.F.kp T.d_is_whole.b .nil pass0 (pa_cons (pv 3) pa_nil)))) pa_nil))))))) (pss_one (ps_ret pe_bl)) pss_nil)
      (pss_cons (ps_for PassesOwn.never rfl (kPiE K (pi_enum rfl T.n_enumerate (pa_cons (pv 1) pa_nil))) (kPgT (n := 2) K (pg_tup rfl (pgs_cons (pg_name (i := 2) sc_is_some.nd rfl (Or.inl rfl)) (pgs_cons (pg_name (i := 3) sc_is_some.nd rfl (Or.inl rfl)) pgs_nil))))
      (pss_one (ps_if (PW.pt (pw_or (pt_not (pt_chain op_le op_lt pe_int (pv 3) (pv 0))) (pw_or1 (PW.pt (pw_and (pt_cmpR op_gt (pv 2) pe_int (nomark _)) (pw_and1 (pt_cmpR op_ge (pe_ix (kIxL K) (pv 1) (pe_op op_sub (pv 2) pe_int) (fun _ _ => rfl)) (pv 3) (nomark _)))))))) (pss_one (ps_ret pe_bl)) pss_nil)))
      (pss_one (ps_ret pe_bl)))), ?_⟩
    refine q_when (b := false) (et_or (a := false) (b := false) (et_not (a := true) (et_B (ev_isi (ev_var rfl) ev_c (fun _ e => ty_list (ex_l e hl)) (by decide +kernel)))) fun _ => et_not (a := true) (et_B ?_)) (fun hb => nomatch hb) fun _ H1 e1 => ?_
    · refine evl_cb (xs := (c.map fun _ => true).map V.bl) ?_ fun p H1 h1 => ?_
      · have h1 := el_lcT (K := K) (R := rNat) (H := H) (σ := start N_is_some [.int (n : Int), .ref a]) (vs := [3]) (tl := tVar 1) (t := tYes) (te := tCall sp_is_whole [] E0 (tCons (tVar 3) tNil)) (g := gName 3) (fun _ : Nat => true) (fun _ => V.bl true) (fun v _ => (wipe (start N_is_some [.int (n : Int), .ref a]) [3]).set 3 (some v)) (ev_var rfl) hy (by omega) (fun _ _ _ => rfl) (fun _ _ _ _ => tg_name)
          (fun v b H1 e1 _ _ => fun H2 _ Q q => q H2 (Ex.refl _)) fun v b H1 e1 _ r _ => by
            have r' : v = .int (b : Int) := r
            subst r'
            exact ev_call (ea_cons (ev_var rfl) ea_nil) spv_is_whole
        rw [List.filter_eq_self.mpr fun _ _ => rfl] at h1
        rw [List.map_map]
        exact h1
      · have := rc_all (K := K) (bs := c.map fun _ => true) (sq_of h1)
        have e2 : (c.map fun _ => true).all id = true := by simp
        rwa [e2] at this
    · refine ⟨_, rfl, a, ws, rfl, ex_l e1 hl, for_enum (xs := ws) (fun i σ' H' => ∃ v2 v3, σ' = [some (.int (n : Int)), some (.ref a), v2, v3] ∧ Ex H H' ∧ ∀ j, j < i → AdjOk n c j) ⟨none, none, rfl, e1, fun j hj => by omega⟩ (fun i σ' H' _ ⟨_, _, _, ee, _⟩ => ex_l ee hl) ?_ ?_⟩
      · rintro i v t σ' H' hi ⟨v2, v3, rfl, eH, hj⟩ ht
        obtain ⟨k, hk, hv⟩ := hA.of_v hi
        have hv' : v = .int (k : Int) := hv
        subst hv'
        have eT : Ex H' (upd H' t (.tup [.int (i : Int), .int (k : Int)])) := Ex.new ht
        have gk : c.getD i 0 = k := by rw [List.getD_eq_getElem?_getD, hk]; rfl
        have hi2 : i < c.length := (List.getElem?_eq_some_iff.mp hk).1
        refine tg_2 (st_of upd_same) _ (Ex.refl _) _ ?_
        have hprev : 0 < i → Ev (tOp (rIxL K) (tVar 1) (tOp (rI0 fun i j => .int (i - j)) (tVar 2) (tC (.int 1)))) (([some (.int (n : Int)), some (.ref a), v2, v3].set 2 (some (.int (i : Int)))).set 3 (some (.int (k : Int)))) (upd H' t (.tup [.int (i : Int), .int (k : Int)])) (.int (c.getD (i - 1) 0 : Int)) := fun h0 => by
          have hp : c[i - 1]? = some (c.getD (i - 1) 0) := by
            rw [List.getD_eq_getElem?_getD, List.getElem?_eq_getElem (show i - 1 < c.length by omega)]
            rfl
          obtain ⟨y, ry, ey⟩ := lst_ix (K := K) (R := rNat) (H := upd H' t (.tup [.int (i : Int), .int (k : Int)])) (σ := (([some (.int (n : Int)), some (.ref a), v2, v3].set 2 (some (.int (i : Int)))).set 3 (some (.int (k : Int))))) (Mono.mono (eH.trans eT) hy) (ta := tVar 1) (tb := tOp (rI0 fun i j => .int (i - j)) (tVar 2) (tC (.int 1))) (ev_var rfl)
            (ev_is (ev_op (ev_var rfl) ev_c rv_I0) (by show V.int ((i : Int) - 1) = V.int ((i - 1 : Nat) : Int); congr 1; omega)) hp
          have ry' : y = .int (c.getD (i - 1) 0 : Int) := ry
          rw [ry'] at ey
          exact ey
        refine s_when (b := (!(decide ((0 : Int) ≤ (k : Int)) && decide ((k : Int) < (n : Int))) || (decide ((0 : Int) < (i : Int)) && decide ((k : Int) ≤ (c.getD (i - 1) 0 : Int)))))
          (et_or (et_not (et_test (ev_chain ev_c (ev_var rfl) rv_I0 (ev_var rfl) rv_I0))) fun _ => et_and (et_test (ev_op (ev_var rfl) ev_c rv_I0)) fun h0 => et_test (ev_op (hprev (by have := of_decide_eq_true h0; omega)) (ev_var rfl) rv_I0)) (fun hb H2 e2 => ?_) fun hb H2 e2 => ?_
        · refine s_ret (v := .bl false) ev_c fun H3 e3 => q false ?_ H3 (((eH.trans eT).trans e2).trans e3)
          refine ⟨(fun z => nomatch z), fun R => ?_⟩
          have := rising_adj.mp R i hi2
          obtain ⟨h1, h2⟩ := this
          rw [gk] at h1 h2
          simp only [Bool.or_eq_true, Bool.not_eq_true', Bool.and_eq_true, Bool.and_eq_false_iff, decide_eq_true_eq, decide_eq_false_iff_not] at hb
          have := h2
          omega
        · refine ⟨some (.int (i : Int)), some (.int (k : Int)), rfl, (eH.trans eT).trans e2, fun j hj' => ?_⟩
          by_cases ej : j = i
          · subst ej
            simp only [Bool.or_eq_false_iff, Bool.not_eq_false', Bool.and_eq_true, Bool.and_eq_false_iff, decide_eq_true_eq, decide_eq_false_iff_not] at hb
            refine ⟨by rw [gk]; omega, fun h0 => by rw [gk]; omega⟩
          · exact hj j (by omega)
      · rintro σ' H' ⟨v2, v3, rfl, eH, hj⟩
        dsimp only
        refine s_ret (v := .bl true) ev_c fun H3 e3 => ?_
        refine q true ?_ H3 (eH.trans e3)
        have hlen : ws.length = c.length := hA.1
        exact ⟨fun _ => rising_adj.mpr fun j hj' => hj j (by omega), fun _ => rfl⟩
def sp_is_choice (K : Frg) : Sp := fun vs H Q _ => ∃ (x y : V) (bk : Bk) (k : Nat) (c : List Nat), vs = [x, .int (k : Int), y] ∧ rLst K (rStt K) H x bk ∧ rLst K rNat H y c ∧ c.length ≤ 24 ∧ ∀ b : Bool, (b = true ↔ Rising bk.length c ∧ crowd bk c ≤ k) → RetV (.bl b) H Q
theorem ok_is_choice (T : Txt K mg) : FnOk P w K mg base CX0 5 T.d_is_choice.f T.d_is_choice.fd ["book", "benches", "thing"] (sp_is_choice K) := by
  refine T.d_is_choice.F.ok sc_is_choice (fun vs H Q E h => ?_) (fun cdv A outer s H vs Q E hr h => ?_)
  · obtain ⟨x, y, bk, k, c, rfl, _⟩ := h
    rfl
  · obtain ⟨x, y, bk, k, c, rfl, hx, hy, few, q⟩ := h
    refine ⟨_, (pss_one (ps_ret (pe_and (pe_call (ok_is_some T) (hr.mono (by decide)) rfl T.d_is_some.m T.d_is_some.F.kp T.d_is_some.b .nil pass0 (pa_cons (pe_callB (kLen K) rfl T.n_len (by decide +kernel) (pa_cons (pv 0) pa_nil)) (pa_cons (pv 2) pa_nil))) (pe_one (pe_cmpR op_le (pe_ix (kIxT K) (pe_call (ok_crowd_of T) (hr.mono (by decide)) rfl T.d_crowd_of.m T.d_crowd_of.F.kp T.d_crowd_of.b .nil pass0 (pa_cons (pv 0) (pa_cons (pv 2) pa_nil))) pe_int (fun _ _ => rfl)) (pv 1) (nomark _)))))), ?_⟩
    refine lst_len hx (ev_var rfl) H (Ex.refl _) _ fun H1 e1 => ⟨_, rfl, ?_⟩
    refine ⟨bk.length, y, c, rfl, Mono.mono e1 hy, few, fun b hb H2 e2 => ⟨b, rfl, ?_⟩⟩
    cases b with
    | false =>
      refine iteF (q false ⟨(fun z => nomatch z), fun z => hb.mpr z.1⟩ H2 (e1.trans e2))
    | true =>
      have R := hb.mp rfl
      refine iteT ?_
      refine ev_op (ev_crowd0 (Mono.mono (e1.trans e2) hx) (Mono.mono (e1.trans e2) hy) R.2 few (ea_cons (ev_var rfl) (ea_cons (ev_var rfl) ea_nil))) (ev_var rfl) rv_I0 H2 (Ex.refl _) _ fun H3 e3 => ?_
      refine q _ ?_ H3 ((e1.trans e2).trans e3)
      rw [decide_eq_true_iff]
      exact ⟨fun z => ⟨R, by omega⟩, fun z => by omega⟩
end
end BW
/-! Papers, claims. -/
namespace BW
open PySem L2 Evl
local macro_rules | `(tactic| walk_at "at") => `(tactic| first | rfl | assumption | exact atI_nat (by assumption))
local macro_rules | `(tactic| walk_at "rv") => `(tactic| first | exact rv_I0 | exact rv_eq rfl | exact rv_ne rfl | exact rv_isN | exact rv_notN | exact rv_notB | exact rv_ixL (by assumption) (by walk_at "at") | exact rv_ixT (by assumption) (by walk_at "at") | exact rv_I (by omega))
local macro_rules | `(tactic| walk_at "ev") => `(tactic| first | exact ev_c | exact ev_var rfl | assumption | (apply ev_chain; walk_at "ev"; walk_at "ev"; walk_at "rv"; walk_at "ev"; walk_at "rv") | (apply ev_op; walk_at "ev"; walk_at "ev"; walk_at "rv"))
section
variable {P : Program} {w : World} {K : Frg} {mg : Str → Option Value} {base : Heap}
theorem spv_is_some {n : Nat} {y : V} {c : List Nat} {H : Hp} (hy : rLst K rNat H y c) (few : c.length ≤ 24) {b : Bool} (hb : b = true ↔ Rising n c) {Q : VK} {E : XK} (q : RetV (.bl b) H Q) : sp_is_some K [.int (n : Int), y] H Q E :=
  ⟨n, y, c, rfl, hy, few, fun b' hb' => by
    have : b' = b := Bool.eq_iff_iff.mpr (hb'.trans hb.symm)
    rw [this]
    exact q⟩
theorem spv_is_choice {x y : V} {bk : Bk} {k : Nat} {c : List Nat} {H : Hp} (hx : rLst K (rStt K) H x bk) (hy : rLst K rNat H y c) (few : c.length ≤ 24) {b : Bool} (hb : b = true ↔ Rising bk.length c ∧ crowd bk c ≤ k) : SpV (sp_is_choice K) [x, .int (k : Int), y] H (.bl b) := fun H1 e Q q _ =>
  ⟨x, y, bk, k, c, rfl, Mono.mono e hx, Mono.mono e hy, few, fun b' hb' => by
    have : b' = b := Bool.eq_iff_iff.mpr (hb'.trans hb.symm)
    rw [this]
    exact q⟩
/-! ### is_price -/
def sp_is_price (K : Frg) : Sp := fun vs H Q _ => ∃ (x : V) (q0 : Int × Int), vs = [x] ∧ rII K H x q0 ∧ RetV (.bl (priceB q0)) H Q
theorem ok_is_price (T : Txt K mg) : FnOk P w K mg base CX0 2 T.d_is_price.f T.d_is_price.fd ["thing"] (sp_is_price K) := by
  refine T.d_is_price.F.ok sc_is_price (fun vs H Q E h => ?_) (fun cdv A outer s H vs Q E hr h => ?_)
  · obtain ⟨x, q0, rfl, _⟩ := h
    rfl
  · obtain ⟨x, q0, rfl, ⟨t, rfl, ht⟩, q⟩ := h
    refine ⟨_, (pss_cons (ps_if (PW.pt (pw_or (pt_not (pt_val (pe_callB (kIsi K) rfl T.n_isinstance (by decide +kernel) (pa_cons (pv 0) (pa_cons (pe_bltn (v := .ty "tuple") rfl T.n_tuple (by decide +kernel) rfl) pa_nil))))) (pw_or (pt_cmpR op_ne (pe_callB (kLen K) rfl T.n_len (by decide +kernel) (pa_cons (pv 0) pa_nil)) pe_int (nomark _)) (pw_or (pt_not (pt_val (pe_call (ok_is_whole T) (hr.mono (by decide)) rfl T.d_is_whole.m T.d_is_whole.F.kp T.d_is_whole.b .nil pass0 (pa_cons (pe_ix (kIxT K) (pv 0) pe_int (fun _ _ => rfl)) pa_nil)))) (pw_or1 (pt_not (pt_val (pe_call (ok_is_whole T) (hr.mono (by decide)) rfl T.d_is_whole.m T.d_is_whole.F.kp T.d_is_whole.b .nil pass0 (pa_cons (pe_ix (kIxT K) (pv 0) pe_int (fun _ _ => rfl)) pa_nil))))))))) (pss_one (ps_ret pe_bl)) pss_nil)
      (pss_one (ps_ret (pe_and (pe_chain op_le op_lt (pe_op op_sub pe_int (pe_glob (v := .int 1000000000000) rfl T.c_FARTHEST ⟨_, rfl⟩)) (pe_ix (kIxT K) (pv 0) pe_int (fun _ _ => rfl)) (pe_glob (v := .int 1000000000000) rfl T.c_FARTHEST ⟨_, rfl⟩)) (pe_one (pe_chain op_le op_le pe_int (pe_ix (kIxT K) (pv 0) pe_int (fun _ _ => rfl)) (pe_glob (v := .int 10000000000000) rfl T.c_GREATEST_PRICE ⟨_, rfl⟩))))))), ?_⟩
    have i0 : ∀ {H1 : Hp}, Ex H H1 → Ev (tOp (rIxT K) (tVar 0) (tC (.int 0))) (start N_is_price [.ref t]) H1 (.int q0.1) := fun e => ev_op (ev_var rfl) ev_c (rv_ixT (ex_t e ht) rfl)
    have i1 : ∀ {H1 : Hp}, Ex H H1 → Ev (tOp (rIxT K) (tVar 0) (tC (.int 1))) (start N_is_price [.ref t]) H1 (.int q0.2) := fun e => ev_op (ev_var rfl) ev_c (rv_ixT (ex_t e ht) rfl)
    refine q_when (b := false) (et_or (a := false) (b := false) (et_not (a := true) (et_B (ev_isi (ev_var rfl) ev_c (fun _ e => ty_tup (ex_t e ht)) (by decide +kernel)))) fun _ => et_or (a := false) (b := false) (et_test (ev_is (ev_op (ev_cb (ea_cons (ev_var rfl) ea_nil) (rc_lenT ht)) ev_c (rv_ne rfl)) rfl)) fun _ =>
      et_or (a := false) (b := false) (et_not (a := true) (et_B (ev_call (ea_cons (i0 (Ex.refl _)) ea_nil) spv_is_whole))) fun _ => et_not (a := true) (et_B (ev_call (ea_cons (i1 (Ex.refl _)) ea_nil) spv_is_whole))) (fun hb => nomatch hb) fun _ H1 e1 => ?_
    refine s_ret (v := .bl (priceB q0)) ?_ fun H2 e2 => q H2 (e1.trans e2)
    unfold priceB
    exact ev_andV (ev_chain (ev_op ev_c ev_c rv_I0) (i0 e1) rv_I0 ev_c rv_I0) fun _ => ev_chain ev_c (i1 e1) rv_I0 ev_c rv_I0
theorem spv_is_price {x : V} {q0 : Int × Int} {H : Hp} (h : rII K H x q0) : SpV (sp_is_price K) [x] H (.bl (priceB q0)) := fun H1 e Q q _ => ⟨x, q0, rfl, Mono.mono e h, q⟩
/-! ### is_paper -/
def sp_is_paper (K : Frg) : Sp := fun vs H Q _ => ∃ (x : V) (p : Paper), vs = [x] ∧ rLst K (rII K) H x p ∧ p.length ≤ 1000 ∧ ∀ b : Bool, (b = true ↔ PaperOk p) → RetV (.bl b) H Q
theorem ok_is_paper (T : Txt K mg) : FnOk P w K mg base CX0 3 T.d_is_paper.f T.d_is_paper.fd ["thing"] (sp_is_paper K) := by
  refine T.d_is_paper.F.ok sc_is_paper (fun vs H Q E h => ?_) (fun cdv A outer s H vs Q E hr h => ?_)
  · obtain ⟨x, p, rfl, _⟩ := h
    rfl
  · obtain ⟨x, p, rfl, hx, few, q⟩ := h
    obtain ⟨a, ws, rfl, hl, hA⟩ := id hx
    have hlen : ws.length = p.length := hA.1
    refine ⟨_, (pss_cons (ps_if (PW.pt (pw_or (pt_not (pt_val (pe_callB (kIsi K) rfl T.n_isinstance (by decide +kernel) (pa_cons (pv 0) (pa_cons (pe_bltn (v := .ty "list") rfl T.n_list (by decide +kernel) rfl) pa_nil))))) (pw_or1 (pt_cmpR op_gt (pe_callB (kLen K) rfl T.n_len (by decide +kernel) (pa_cons (pv 0) pa_nil)) (pe_glob (v := .int 48) rfl T.c_MOST_PRICES ⟨_, rfl⟩) (nomark _))))) (pss_one (ps_ret pe_bl)) pss_nil)
      (pss_cons (ps_for PassesOwn.never rfl (kPiL K (pv 0)) (pg_name (i := 1) sc_is_paper.nd rfl (Or.inl rfl))
      (pss_one (ps_if (pt_not (pt_val (pe_call (ok_is_price T) (hr.mono (by decide)) rfl T.d_is_price.m T.d_is_price.F.kp T.d_is_price.b .nil pass0 (pa_cons (pv 1) pa_nil)))) (pss_one (ps_ret pe_bl)) pss_nil)))
      (pss_cons (ps_for PassesOwn.never rfl (kPiZ K (pi_zip rfl T.n_zip (pa_cons (pv 0) (pa_cons (pe_slice (kSlL K) (pv 0) (po_some pe_int) po_none) pa_nil)))) (kPgT (n := 2) K (pg_tup rfl (pgs_cons (pg_name (i := 1) sc_is_paper.nd rfl (Or.inl rfl)) (pgs_cons (pg_name (i := 2) sc_is_paper.nd rfl (Or.inl rfl)) pgs_nil))))
      (pss_one (ps_if (pt_cmpR op_le (pe_ix (kIxT K) (pv 2) pe_int (fun _ _ => rfl)) (pe_ix (kIxT K) (pv 1) pe_int (fun _ _ => rfl)) (nomark _)) (pss_one (ps_ret pe_bl)) pss_nil)))
      (pss_one (ps_ret pe_bl))))), ?_⟩
    refine q_when (b := decide ((48 : Int) < (p.length : Int))) (et_is (et_or (a := false) (et_not (a := true) (et_B (ev_isi (ev_var rfl) ev_c (fun _ e => ty_list (ex_l e hl)) (by decide +kernel)))) fun _ => et_test (ev_op (lst_len hx (ev_var rfl)) ev_c rv_I0)) (Bool.false_or _)) (fun hb H1 e1 => ?_) fun hb H1 e1 => ?_
    · refine s_ret (v := .bl false) ev_c fun H2 e2 => q false ⟨(fun z => nomatch z), fun R => ?_⟩ H2 (e1.trans e2)
      have := of_decide_eq_true hb
      have := R.len
      omega
    · have hb' := of_decide_eq_false hb
      -- for one in thing
      refine ⟨_, rfl, a, rfl, ⟨ws, ex_l e1 hl⟩, for_list (xs := ws) (fun i σ' H' => ∃ v1, σ' = [some (.ref a), v1, none] ∧ Ex H H' ∧ ∀ j, j < i → priceB (pAt p j) = true) ⟨none, rfl, e1, fun j hj => by omega⟩ (fun i σ' H' _ ⟨_, _, ee, _⟩ => ex_l ee hl) ?_ ?_⟩
      · rintro i v σ' H' hi ⟨v1, rfl, eH, hj⟩
        obtain ⟨b, hb2, r⟩ := hA.of_v hi
        have gb : pAt p i = b := by unfold pAt; rw [List.getD_eq_getElem?_getD, hb2]; rfl
        have hi2 : i < p.length := (List.getElem?_eq_some_iff.mp hb2).1
        refine s_when (b := !priceB b) (et_not (et_B (ev_call (ea_cons (ev_var rfl) ea_nil) (spv_is_price (Mono.mono eH r))))) (fun hb3 H2 e2 => ?_) fun hb3 H2 e2 => ?_
        · refine s_ret (v := .bl false) ev_c fun H3 e3 => q false ⟨(fun z => nomatch z), fun R => ?_⟩ H3 ((eH.trans e2).trans e3)
          have := (paperOk_iff.mp R).2.1 i hi2
          rw [gb] at this
          rw [this] at hb3
          cases hb3
        · refine ⟨some v, rfl, eH.trans e2, fun j hj' => ?_⟩
          by_cases ej : j = i
          · subst ej
            rw [gb]
            simpa using hb3
          · exact hj j (by omega)
      · rintro σ' H' ⟨v1, rfl, eH, hj⟩
        rw [hlen] at hj
        -- for one, other in zip(thing, thing[1:])
        refine ⟨_, rfl, _, rfl, _, rfl, a, ws, rfl, ex_l eH hl, fun d hd => ?_⟩
        rw [show ((1 : Int)) = ((1 : Nat) : Int) from rfl, cut_from]
        have eD : Ex H' (upd H' d (.lst (ws.drop 1))) := Ex.new hd
        refine ⟨a, d, ws, ws.drop 1, rfl, ex_l (eH.trans eD) hl, sq_of upd_same, for_zip (xs := ws) (ys := ws.drop 1) (fun i σ2 H2 => ∃ v1 v2, σ2 = [some (.ref a), v1, v2] ∧ Ex H H2 ∧ H2 d = some (.lst (ws.drop 1)) ∧ ∀ j, j < i → (pAt p j).1 < (pAt p (j + 1)).1) ⟨_, none, rfl, eH.trans eD, upd_same, fun j hj => by omega⟩
          (fun i σ2 H2 ⟨_, _, _, ee, hd2, _⟩ => ⟨ex_l ee hl, sq_of hd2⟩) ?_ ?_⟩
        · rintro i x y t σ2 H2 hxi hyi ⟨v1, v2, rfl, e2, hd2, hjj⟩ ht
          rw [List.getElem?_drop] at hyi
          obtain ⟨b1, hb1, t1, rfl, ht1⟩ := hA.of_v hxi
          obtain ⟨b2, hb2, t2, rfl, ht2⟩ := hA.of_v hyi
          have g1 : pAt p i = b1 := by unfold pAt; rw [List.getD_eq_getElem?_getD, hb1]; rfl
          have g2 : pAt p (i + 1) = b2 := by unfold pAt; rw [List.getD_eq_getElem?_getD, Nat.add_comm i 1, hb2]; rfl
          have hi2 : i + 1 < p.length := by have := (List.getElem?_eq_some_iff.mp hb2).1; omega
          have eT : Ex H2 (upd H2 t (.tup [.ref t1, .ref t2])) := Ex.new ht
          refine tg_2 (st_of upd_same) _ (Ex.refl _) _ ?_
          refine s_when (b := decide (b2.1 ≤ b1.1)) (et_test (ev_op (ev_op (ev_var rfl) ev_c (rv_ixT (ex_t (e2.trans eT) ht2) rfl)) (ev_op (ev_var rfl) ev_c (rv_ixT (ex_t (e2.trans eT) ht1) rfl)) rv_I0)) (fun hb3 H3 e3 => ?_) fun hb3 H3 e3 => ?_
          · refine s_ret (v := .bl false) ev_c fun H4 e4 => q false ⟨(fun z => nomatch z), fun R => ?_⟩ H4 (((e2.trans eT).trans e3).trans e4)
            have := (paperOk_iff.mp R).2.2 i hi2
            rw [g1, g2] at this
            have := of_decide_eq_true hb3
            omega
          · refine ⟨some (.ref t1), some (.ref t2), rfl, (e2.trans eT).trans e3, e3 _ _ (eT _ _ hd2), fun j hj' => ?_⟩
            by_cases ej : j = i
            · subst ej
              rw [g1, g2]
              have := of_decide_eq_false hb3
              omega
            · exact hjj j (by omega)
        · rintro i σ2 H2 hle ⟨v1, v2, rfl, e2, hd2, hjj⟩
          rw [List.length_drop] at hle
          dsimp only
          refine s_ret (v := .bl true) ev_c fun H3 e3 => ?_
          exact q true ⟨fun _ => paperOk_iff.mpr ⟨by omega, hj, fun j hj' => hjj j (by omega)⟩, fun _ => rfl⟩ H3 (e2.trans e3)
theorem spv_is_paper {x : V} {p : Paper} {H : Hp} (hx : rLst K (rII K) H x p) (few : p.length ≤ 1000) {b : Bool} (hb : b = true ↔ PaperOk p) : SpV (sp_is_paper K) [x] H (.bl b) := fun H1 e Q q _ =>
  ⟨x, p, rfl, Mono.mono e hx, few, fun b' hb' => by
    have : b' = b := Bool.eq_iff_iff.mpr (hb'.trans hb.symm)
    rw [this]
    exact q⟩
/-! ### tolls, rests, claims -/
def sp_toll_of (K : Frg) : Sp := fun vs H Q _ => ∃ (x y : V) (s : Sp3) (p : Paper), vs = [x, y] ∧ rStt K H x s ∧ rLst K (rII K) H y p ∧ p.length ≤ 1000 ∧ RetV (.int (toll s p)) H Q
theorem ok_toll_of (T : Txt K mg) : FnOk P w K mg base CX0 2 T.d_toll_of.f T.d_toll_of.fd ["stretch", "paper"] (sp_toll_of K) := by
  refine T.d_toll_of.F.ok sc_toll_of (fun vs H Q E h => ?_) (fun cdv A outer s H vs Q E hr h => ?_)
  · obtain ⟨x, y, s, p, rfl, _⟩ := h
    rfl
  · obtain ⟨x, y, s0, p, rfl, hx, hy, few, q⟩ := h
    refine ⟨_, (pss_one (ps_ret (pe_callB (kSum K rfl) rfl T.n_sum (by decide +kernel) (pa_cons (pe_lc (own := [("moment", 2), ("price", 3)]) (g := gTup K 2 (gCons (gName 2) (gCons (gName 3) gNil))) rfl sc_toll_of.nd (kPiL K (pv 1)) (blkOk_by (own := [("moment", 2), ("price", 3)]) (N := N_toll_of) (sc := defScope S_toll_of) (by decide +kernel)) (fun _ _ _ _ _ => (kPgT (n := 2) K (pg_tup rfl (pgs_cons (pg_name (i := 2) sc_toll_of.nd rfl (Or.inl rfl)) (pgs_cons (pg_name (i := 3) sc_toll_of.nd rfl (Or.inl rfl)) pgs_nil))))) (fun _ _ _ _ _ => (pts_one (pt_val (pe_call (ok_is_over T) (hr.mono (by decide)) rfl T.d_is_over.m T.d_is_over.F.kp T.d_is_over.b .nil pass0 (pa_cons (pv 0) (pa_cons (pv 2) pa_nil)))))) (fun _ _ _ _ _ => (pv 3))) pa_nil)))), ?_⟩
    refine s_ret (v := .int (toll s0 p)) ?_ q
    refine evl_cb (el_lcT (R := rII K) (fun q => over s0 q.1) (fun q : Int × Int => V.int q.2) (fun v a => ((wipe (start N_toll_of [x, y]) [2, 3]).set 2 (some (.int a.1))).set 3 (some (.int a.2))) (ev_var rfl) hy (by omega) (fun _ _ _ => rfl)
      (fun v a _ ⟨t, e, ht⟩ => e ▸ tg_2 ht) (fun v a H1 e ha r => et_B (ev_call (ea_cons (ev_var rfl) (ea_cons (ev_var rfl) ea_nil)) (spv_is_over (Mono.mono e hx)))) fun v a H1 e ha r _ => ev_var rfl) fun d H1 h1 => ?_
    refine rc_sum (ns := (p.filter fun q => over s0 q.1).map (·.2)) (sq_of ?_)
    rw [List.map_map]
    exact h1
theorem spv_toll_of {x y : V} {s : Sp3} {p : Paper} {H : Hp} (hx : rStt K H x s) (hy : rLst K (rII K) H y p) (few : p.length ≤ 1000) : SpV (sp_toll_of K) [x, y] H (.int (toll s p)) := fun H1 e Q q _ => ⟨x, y, s, p, rfl, Mono.mono e hx, Mono.mono e hy, few, q⟩
def sp_rest_of (K : Frg) : Sp := fun vs H Q _ => ∃ (x y : V) (s : Sp3) (p : Paper), vs = [x, y] ∧ rStt K H x s ∧ rLst K (rII K) H y p ∧ p.length ≤ 1000 ∧ RetV (.int (rest s p)) H Q
theorem ok_rest_of (T : Txt K mg) : FnOk P w K mg base CX0 3 T.d_rest_of.f T.d_rest_of.fd ["stretch", "paper"] (sp_rest_of K) := by
  refine T.d_rest_of.F.ok sc_rest_of (fun vs H Q E h => ?_) (fun cdv A outer s H vs Q E hr h => ?_)
  · obtain ⟨x, y, s, p, rfl, _⟩ := h
    rfl
  · obtain ⟨x, y, s0, p, rfl, hx, hy, few, q⟩ := h
    refine ⟨_, (pss_one (ps_ret (pe_callB (call_max2 rfl) rfl T.n_max (by decide +kernel) (pa_cons pe_int (pa_cons (pe_op op_sub (pe_ix (kIxT K) (pv 0) pe_int (fun _ _ => rfl)) (pe_call (ok_toll_of T) (hr.mono (by decide)) rfl T.d_toll_of.m T.d_toll_of.F.kp T.d_toll_of.b .nil pass0 (pa_cons (pv 0) (pa_cons (pv 1) pa_nil)))) pa_nil))))), ?_⟩
    obtain ⟨t, n, rfl, ht⟩ := id hx
    refine s_ret (v := .int (rest s0 p)) ?_ q
    exact ev_cb (ea_cons ev_c (ea_cons (ev_op (ev_op (ev_var rfl) ev_c (rv_ixT ht rfl)) (ev_call (ea_cons (ev_var rfl) (ea_cons (ev_var rfl) ea_nil)) (spv_toll_of hx hy few)) rv_I0) ea_nil)) rc_max2
theorem spv_rest_of {x y : V} {s : Sp3} {p : Paper} {H : Hp} (hx : rStt K H x s) (hy : rLst K (rII K) H y p) (few : p.length ≤ 1000) : SpV (sp_rest_of K) [x, y] H (.int (rest s p)) := fun H1 e Q q _ => ⟨x, y, s, p, rfl, Mono.mono e hx, Mono.mono e hy, few, q⟩
def sp_claim (K : Frg) : Sp := fun vs H Q _ => ∃ (x y : V) (bk : Bk) (k : Nat) (p : Paper), vs = [x, .int (k : Int), y] ∧ rLst K (rStt K) H x bk ∧ rLst K (rII K) H y p ∧ bk.length ≤ 24 ∧ k ≤ 1000 ∧ p.length ≤ 1000 ∧ RetV (.int (claim bk k p)) H Q
theorem ok_claim (T : Txt K mg) : FnOk P w K mg base CX0 4 T.d_claim.f T.d_claim.fd ["book", "benches", "paper"] (sp_claim K) := by
  refine T.d_claim.F.ok sc_claim (fun vs H Q E h => ?_) (fun cdv A outer s H vs Q E hr h => ?_)
  · obtain ⟨x, y, bk, k, p, rfl, _⟩ := h
    rfl
  · obtain ⟨x, y, bk, k, p, rfl, hx, hy, few, hk, fewp, q⟩ := h
    refine ⟨_, (pss_cons (ps_set (i := 3) sc_claim.nd rfl (Or.inl rfl) (pe_callB (kSum K rfl) rfl T.n_sum (by decide +kernel) (pa_cons (pe_lc (own := [("moment", 4), ("price", 5)]) (g := gTup K 2 (gCons (gName 4) (gCons (gName 5) gNil))) (tt := tYes) rfl sc_claim.nd (kPiL K (pv 2)) (blkOk_by (own := [("moment", 4), ("price", 5)]) (N := N_claim) (sc := defScope S_claim) (by decide +kernel)) (fun _ _ _ _ _ => (kPgT (n := 2) K (pg_tup rfl (pgs_cons (pg_name (i := 4) sc_claim.nd rfl (Or.inl rfl)) (pgs_cons (pg_name (i := 5) sc_claim.nd rfl (Or.inl rfl)) pgs_nil))))) (fun _ _ _ _ _ => pts_nil) (fun _ _ _ _ _ => (pv 5))) pa_nil)))
      (pss_one (ps_ret (pe_op op_add (pe_op op_mul (pv 1) (pv 3)) (pe_callB (kSum K rfl) rfl T.n_sum (by decide +kernel) (pa_cons (pe_lc (own := [("stretch", 6)]) (g := gName 6) (tt := tYes) rfl sc_claim.nd (kPiL K (pv 0)) (blkOk_by (own := [("stretch", 6)]) (N := N_claim) (sc := defScope S_claim) (by decide +kernel)) (fun _ _ _ _ _ => (pg_name (i := 6) sc_claim.nd rfl (Or.inl rfl))) (fun _ _ _ _ _ => pts_nil) (fun _ _ _ _ _ => (pe_call (ok_rest_of T) (hr.mono (by decide)) rfl T.d_rest_of.m T.d_rest_of.F.kp T.d_rest_of.b .nil pass0 (pa_cons (pv 6) (pa_cons (pv 2) pa_nil))))) pa_nil)))))), ?_⟩
    refine q_asg (v := .int (total p)) ?_ fun H1 e1 => ?_
    · refine evl_cb (el_lcT (R := rII K) (fun _ => true) (fun q : Int × Int => V.int q.2) (fun v a => ((wipe (start N_claim [x, .int (k : Int), y]) [4, 5]).set 4 (some (.int a.1))).set 5 (some (.int a.2))) (ev_var rfl) hy (by omega) (fun _ _ _ => rfl)
        (fun v a _ ⟨t, e, ht⟩ => e ▸ tg_2 ht) (fun v a H1 e ha r => fun H2 _ Q q => q H2 (Ex.refl _)) fun v a H1 e ha r _ => ev_var rfl) fun d H1 h1 => ?_
      refine rc_sum (ns := p.map (·.2)) (sq_of ?_)
      rw [List.filter_eq_self.mpr fun _ _ => rfl] at h1
      rw [List.map_map]
      exact h1
    · refine s_ret (v := .int (claim bk k p)) ?_ fun H2 e2 => q H2 (e1.trans e2)
      refine ev_op (ev_op (ev_var rfl) (ev_var rfl) (rv_I (.inl ⟨by omega, by omega⟩))) (y := .int (bk.map fun s => rest s p).sum) ?_ rv_I0
      refine evl_cb (el_lcT (R := rStt K) (fun _ => true) (fun s => V.int (rest s p)) (fun v a => (wipe [some x, some (.int (k : Int)), some y, some (.int (total p)), none, none, none] [6]).set 6 (some v)) (ev_var rfl) (Mono.mono e1 hx) (by omega) (fun _ _ _ => rfl)
        (fun _ _ _ _ => tg_name) (fun v a H1 e ha r => fun H2 _ Q q => q H2 (Ex.refl _)) fun v a H2 e ha r _ => ev_call (ea_cons (ev_var rfl) (ea_cons (ev_var rfl) ea_nil)) (spv_rest_of (Mono.mono e r) (Mono.mono (e1.trans e) hy) fewp)) fun d H2 h1 => ?_
      refine rc_sum (ns := bk.map fun s => rest s p) (sq_of ?_)
      rw [List.filter_eq_self.mpr fun _ _ => rfl] at h1
      rw [List.map_map]
      exact h1
theorem spv_claim {x y : V} {bk : Bk} {k : Nat} {p : Paper} {H : Hp} (hx : rLst K (rStt K) H x bk) (hy : rLst K (rII K) H y p) (few : bk.length ≤ 24) (hk : k ≤ 1000) (fewp : p.length ≤ 1000) : SpV (sp_claim K) [x, .int (k : Int), y] H (.int (claim bk k p)) := fun H1 e Q q _ => ⟨x, y, bk, k, p, rfl, Mono.mono e hx, Mono.mono e hy, few, hk, fewp, q⟩
end
end BW
/-! Rows looked at. -/
namespace BW
open PySem L2 Evl
local macro_rules | `(tactic| walk_at "at") => `(tactic| first | rfl | assumption | exact atI_nat (by assumption))
local macro_rules | `(tactic| walk_at "rv") => `(tactic| first | exact rv_I0 | exact rv_eq rfl | exact rv_ne rfl | exact rv_isN | exact rv_notN | exact rv_notB | exact rv_ixL (by assumption) (by walk_at "at") | exact rv_ixT (by assumption) (by walk_at "at") | exact rv_I (by omega))
local macro_rules | `(tactic| walk_at "ev") => `(tactic| first | exact ev_c | exact ev_var rfl | assumption | (apply ev_chain; walk_at "ev"; walk_at "ev"; walk_at "rv"; walk_at "ev"; walk_at "rv") | (apply ev_op; walk_at "ev"; walk_at "ev"; walk_at "rv"))
section
variable {P : Program} {w : World} {K : Frg} {mg : Str → Option Value} {base : Heap}
/-! ### is_step -/
def sp_is_step (K : Frg) : Sp := fun vs H Q _ => ∃ (x y : V) (bk : Bk) (k : Nat) (s : Int × List Nat), vs = [x, .int (k : Int), y] ∧ rLst K (rStt K) H x bk ∧ rStep K H y s ∧ s.2.length ≤ 24 ∧ ∀ b : Bool, (b = true ↔ StepOk bk k s) → RetV (.bl b) H Q
theorem ok_is_step (T : Txt K mg) : FnOk P w K mg base CX0 6 T.d_is_step.f T.d_is_step.fd ["book", "benches", "thing"] (sp_is_step K) := by
  refine T.d_is_step.F.ok sc_is_step (fun vs H Q E h => ?_) (fun cdv A outer s H vs Q E hr h => ?_)
  · obtain ⟨x, y, bk, k, s, rfl, _⟩ := h
    rfl
  · obtain ⟨x, y, bk, k, s0, rfl, hx, ⟨t, z, rfl, ht, hz⟩, few, q⟩ := h
    refine ⟨_, (pss_cons (ps_if (PW.pt (pw_or (pt_not (pt_val (pe_callB (kIsi K) rfl T.n_isinstance (by decide +kernel) (pa_cons (pv 2) (pa_cons (pe_bltn (v := .ty "tuple") rfl T.n_tuple (by decide +kernel) rfl) pa_nil))))) (pw_or (pt_cmpR op_ne (pe_callB (kLen K) rfl T.n_len (by decide +kernel) (pa_cons (pv 2) pa_nil)) pe_int (nomark _)) (pw_or1 (pt_not (pt_val (pe_call (ok_is_whole T) (hr.mono (by decide)) rfl T.d_is_whole.m T.d_is_whole.F.kp T.d_is_whole.b .nil pass0 (pa_cons (pe_ix (kIxT K) (pv 2) pe_int (fun _ _ => rfl)) pa_nil)))))))) (pss_one (ps_ret pe_bl)) pss_nil)
      (pss_one (ps_ret (pe_and (pe_call (ok_is_choice T) (hr.mono (by decide)) rfl T.d_is_choice.m T.d_is_choice.F.kp T.d_is_choice.b .nil pass0 (pa_cons (pv 0) (pa_cons (pv 1) (pa_cons (pe_ix (kIxT K) (pv 2) pe_int (fun _ _ => rfl)) pa_nil)))) (pe_one (pe_cmpR op_eq (pe_ix (kIxT K) (pv 2) pe_int (fun _ _ => rfl)) (pe_call (ok_worth_of T) (hr.mono (by decide)) rfl T.d_worth_of.m T.d_worth_of.F.kp T.d_worth_of.b .nil pass0 (pa_cons (pv 0) (pa_cons (pe_ix (kIxT K) (pv 2) pe_int (fun _ _ => rfl)) pa_nil))) (nomark _))))))), ?_⟩
    have i0 : ∀ {H1 : Hp}, Ex H H1 → Ev (tOp (rIxT K) (tVar 2) (tC (.int 0))) (start N_is_step [x, .int (k : Int), .ref t]) H1 (.int s0.1) := fun e => ev_op (ev_var rfl) ev_c (rv_ixT (ex_t e ht) rfl)
    have i1 : ∀ {H1 : Hp}, Ex H H1 → Ev (tOp (rIxT K) (tVar 2) (tC (.int 1))) (start N_is_step [x, .int (k : Int), .ref t]) H1 z := fun e => ev_op (ev_var rfl) ev_c (rv_ixT (ex_t e ht) rfl)
    refine q_when (b := false) (et_or (a := false) (b := false) (et_not (a := true) (et_B (ev_isi (ev_var rfl) ev_c (fun _ e => ty_tup (ex_t e ht)) (by decide +kernel)))) fun _ => et_or (a := false) (b := false) (et_test (ev_is (ev_op (ev_cb (ea_cons (ev_var rfl) ea_nil) (rc_lenT ht)) ev_c (rv_ne rfl)) rfl)) fun _ =>
      et_not (a := true) (et_B (ev_call (ea_cons (i0 (Ex.refl _)) ea_nil) spv_is_whole))) (fun hb => nomatch hb) fun _ H1 e1 => ?_
    have dB := Classical.propDecidable (Rising bk.length s0.2 ∧ crowd bk s0.2 ≤ k)
    refine s_ret (v := .bl (decide (Rising bk.length s0.2 ∧ crowd bk s0.2 ≤ k) && decide (V.int s0.1 = V.int (worth bk s0.2)))) ?_ fun H2 e2 => q _ ?_ H2 (e1.trans e2)
    · refine ev_andV (ev_call (ea_cons (ev_var rfl) (ea_cons (ev_var rfl) (ea_cons (i1 e1) ea_nil))) (spv_is_choice (Mono.mono e1 hx) (Mono.mono e1 hz) few decide_eq_true_iff)) fun h => ?_
      have R := of_decide_eq_true h
      exact ev_op (i0 e1) (ev_call (ea_cons (ev_var rfl) (ea_cons (i1 e1) ea_nil)) (spv_worth_of (Mono.mono e1 hx) (Mono.mono e1 hz) R.1.2 (by omega))) (rv_eq rfl)
    · rw [Bool.and_eq_true, decide_eq_true_iff, decide_eq_true_iff]
      constructor
      · rintro ⟨⟨h1, h2⟩, h3⟩
        exact ⟨h1, h2, by injection h3⟩
      · rintro ⟨h1, h2, h3⟩
        exact ⟨⟨h1, h2⟩, by rw [h3]⟩
theorem spv_is_step {x y : V} {bk : Bk} {k : Nat} {s : Int × List Nat} {H : Hp} (hx : rLst K (rStt K) H x bk) (hy : rStep K H y s) (few : s.2.length ≤ 24) {b : Bool} (hb : b = true ↔ StepOk bk k s) : SpV (sp_is_step K) [x, .int (k : Int), y] H (.bl b) := fun H1 e Q q _ =>
  ⟨x, y, bk, k, s, rfl, Mono.mono e hx, Mono.mono e hy, few, fun b' hb' => by
    have : b' = b := Bool.eq_iff_iff.mpr (hb'.trans hb.symm)
    rw [this]
    exact q⟩
/-! ### claims_both -/
/-- steps[i][0] -/
theorem ev_step0 {σ : L2.St} {H : Hp} {ta tb : TE} {x : V} {st : Steps} {i : Nat} (hx : rLst K (rStep K) H x st) (ha : Ev ta σ H x) (hb : Ev tb σ H (.int (i : Int))) (hi : i < st.length) : Ev (tOp (rIxT K) (tOp (rIxL K) ta tb) (tC (.int 0))) σ H (.int (stepW st i)) := by
  obtain ⟨y, ⟨t, z, rfl, ht, _⟩, hy⟩ := lst_ix hx ha hb (List.getElem?_eq_getElem hi)
  have e : stepW st i = st[i].1 := by unfold stepW; rw [List.getD_eq_getElem?_getD, List.getElem?_eq_getElem hi]; rfl
  rw [e]
  exact ev_op hy ev_c (rv_ixT ht rfl)
def sp_claims_both (K : Frg) : Sp := fun vs H Q _ => ∃ (x y z : V) (bk : Bk) (st : Steps) (k : Nat) (p : Paper), vs = [x, y, .int (k : Int), z] ∧ rLst K (rStt K) H x bk ∧ rLst K (rStep K) H y st ∧ rLst K (rII K) H z p ∧ bk.length ≤ 24 ∧ k < st.length ∧ st.length ≤ 100 ∧ p.length ≤ 1000 ∧
  ∀ b : Bool, (b = true ↔ BothOk bk st k p) → RetV (.bl b) H Q
theorem ok_claims_both (T : Txt K mg) : FnOk P w K mg base CX0 5 T.d_claims_both.f T.d_claims_both.fd ["book", "steps", "benches", "thing"] (sp_claims_both K) := by
  refine T.d_claims_both.F.ok sc_claims_both (fun vs H Q E h => ?_) (fun cdv A outer s H vs Q E hr h => ?_)
  · obtain ⟨x, y, z, bk, st, k, p, rfl, _⟩ := h
    rfl
  · obtain ⟨x, y, z, bk, st, k, p, rfl, hx, hy, hz, few, hk, fst, fewp, q⟩ := h
    refine ⟨_, (pss_cons (ps_if (PW.pt (pw_or (pt_not (pt_val (pe_call (ok_is_paper T) (hr.mono (by decide)) rfl T.d_is_paper.m T.d_is_paper.F.kp T.d_is_paper.b .nil pass0 (pa_cons (pv 3) pa_nil)))) (pw_or1 (pt_cmpR op_ne (pe_call (ok_claim T) (hr.mono (by decide)) rfl T.d_claim.m T.d_claim.F.kp T.d_claim.b .nil pass0 (pa_cons (pv 0) (pa_cons (pv 2) (pa_cons (pv 3) pa_nil)))) (pe_ix (kIxT K) (pe_ix (kIxL K) (pv 1) (pv 2) (fun _ _ => rfl)) pe_int (fun _ _ => rfl)) (nomark _))))) (pss_one (ps_ret pe_bl)) pss_nil)
      (pss_cons (ps_if (pt_cmpR op_eq (pe_op op_add (pv 2) pe_int) (pe_callB (kLen K) rfl T.n_len (by decide +kernel) (pa_cons (pv 1) pa_nil)) (nomark _)) (pss_one (ps_ret (pe_cmpR (kEqD K hr.units) (pv 3) (pe_lst pa_nil) (nomark _)))) pss_nil)
      (pss_one (ps_ret (pe_cmpR op_eq (pe_call (ok_claim T) (hr.mono (by decide)) rfl T.d_claim.m T.d_claim.F.kp T.d_claim.b .nil pass0 (pa_cons (pv 0) (pa_cons (pe_op op_add (pv 2) pe_int) (pa_cons (pv 3) pa_nil)))) (pe_ix (kIxT K) (pe_ix (kIxL K) (pv 1) (pe_op op_add (pv 2) pe_int) (fun _ _ => rfl)) pe_int (fun _ _ => rfl)) (nomark _)))))), ?_⟩
    have dP := Classical.propDecidable (PaperOk p)
    refine q_when (b := !decide (PaperOk p) || !decide (V.int (claim bk k p) = V.int (stepW st k))) (et_or (et_not (et_B (ev_call (ea_cons (ev_var rfl) ea_nil) (spv_is_paper hz fewp decide_eq_true_iff)))) fun _ =>
      et_test (ev_op (ev_call (ea_cons (ev_var rfl) (ea_cons (ev_var rfl) (ea_cons (ev_var rfl) ea_nil))) (spv_claim hx hz few (by omega) fewp)) (ev_step0 hy (ev_var rfl) (ev_var rfl) hk) (rv_ne rfl))) (fun hb H1 e1 => ?_) fun hb H1 e1 => ?_
    · refine s_ret (v := .bl false) ev_c fun H2 e2 => q false ⟨(fun z => nomatch z), fun B => ?_⟩ H2 (e1.trans e2)
      rw [decide_eq_true B.ok, decide_eq_true (by rw [B.c0])] at hb
      cases hb
    · have h1 : PaperOk p := by
        by_cases hp : PaperOk p
        · exact hp
        · rw [decide_eq_false hp] at hb
          cases hb
      have h2 : claim bk k p = stepW st k := by
        by_cases hc : V.int (claim bk k p) = V.int (stepW st k)
        · injection hc
        · rw [decide_eq_true h1, decide_eq_false hc] at hb
          cases hb
      refine q_when (b := decide (V.int ((k : Int) + 1) = V.int (st.length : Int))) (et_test (ev_op (ev_op (ev_var rfl) ev_c rv_I0) (lst_len (Mono.mono e1 hy) (ev_var rfl)) (rv_eq rfl))) (fun hb2 H2 e2 => ?_) fun hb2 H2 e2 => ?_
      · have hl : k + 1 = st.length := by
          have := of_decide_eq_true hb2
          injection this with this
          omega
        refine s_ret (v := .bl (decide (p = []))) ?_ fun H3 e3 => q _ ?_ H3 ((e1.trans e2).trans e3)
        · refine ev_opL (xs := []) (ev_var rfl) (el_lst ea_nil (by decide)) fun d H3 hd e3 => ?_
          rw [← eqv_nil p]
          exact rv_eqD (fun H4 e4 => dp_pairs (Mono.mono (((e1.trans e2).trans e3).trans e4) hz)) (fun H4 e4 => .lst (ex_l e4 (sq_of hd)) .nil) (shaped_pairs p) rfl
        · rw [decide_eq_true_iff]
          exact ⟨fun e => ⟨h1, h2, fun _ => e, fun n => absurd hl n⟩, fun B => B.last hl⟩
      · have hl : k + 1 ≠ st.length := fun e => of_decide_eq_false hb2 (by rw [← e]; rfl)
        refine s_ret (v := .bl (decide (V.int (claim bk (k + 1 : Nat) p) = V.int (stepW st (k + 1))))) ?_ fun H3 e3 => q _ ?_ H3 ((e1.trans e2).trans e3)
        · have ek : Ev (tOp (rI0 fun i j => .int (i + j)) (tVar 2) (tC (.int 1))) (start N_claims_both [x, y, .int (k : Int), z]) H2 (.int ((k + 1 : Nat) : Int)) := ev_is (ev_op (ev_var rfl) ev_c rv_I0) rfl
          exact ev_op (ev_call (ea_cons (ev_var rfl) (ea_cons ek (ea_cons (ev_var rfl) ea_nil))) (spv_claim (Mono.mono (e1.trans e2) hx) (Mono.mono (e1.trans e2) hz) few (by omega) fewp)) (ev_step0 (Mono.mono (e1.trans e2) hy) (ev_var rfl) ek (by omega)) (rv_eq rfl)
        · rw [decide_eq_true_iff]
          constructor
          · intro e
            injection e with e
            exact ⟨h1, h2, fun n => absurd n hl, fun _ => e⟩
          · intro B
            rw [← B.c1 hl]
            rfl
theorem spv_claims_both {x y z : V} {bk : Bk} {st : Steps} {k : Nat} {p : Paper} {H : Hp} (hx : rLst K (rStt K) H x bk) (hy : rLst K (rStep K) H y st) (hz : rLst K (rII K) H z p) (few : bk.length ≤ 24) (hk : k < st.length) (fst : st.length ≤ 100) (fewp : p.length ≤ 1000) {b : Bool} (hb : b = true ↔ BothOk bk st k p) :
    SpV (sp_claims_both K) [x, y, .int (k : Int), z] H (.bl b) := fun H1 e Q q _ =>
  ⟨x, y, z, bk, st, k, p, rfl, Mono.mono e hx, Mono.mono e hy, Mono.mono e hz, few, hk, fst, fewp, fun b' hb' => by
    have : b' = b := Bool.eq_iff_iff.mpr (hb'.trans hb.symm)
    rw [this]
    exact q⟩
/-! ### lets_row -/
def sp_lets_row (K : Frg) : Sp := fun vs H Q _ => ∃ (x y : V) (bk : Bk) (st : Steps) (pp : List Paper), vs = [x, y] ∧ rLst K (rStt K) H x bk ∧ rRow K H y (st, pp) ∧ bk.length ≤ 24 ∧ st.length ≤ 100 ∧ (∀ s ∈ st, s.2.length ≤ 24) ∧ (∀ p ∈ pp, p.length ≤ 1000) ∧
  ∀ b : Bool, (b = true ↔ LetsOk bk st pp) → RetV (.bl b) H Q
theorem ev_range {σ : L2.St} {H : Hp} {x : V} {bk : Bk} {ta : TE} (hx : rLst K (rStt K) H x bk) (few : bk.length ≤ 24) (ha : Ev ta σ H x) : EvL (tLstRg (tRg1 (tCB (rLenS K) (tCons ta tNil)))) σ H (((List.range bk.length).map fun n : Nat => (n : Int)).map V.int) := fun H1 e Q q =>
  lst_len hx ha H1 e _ fun H2 e2 => ⟨_, rfl, RgOk.of_le (Int.le_refl 0) (by omega) (by decide) (by omega), fun p hp => by
    have er : rgV 0 (bk.length : Int) = ((List.range bk.length).map fun n : Nat => (n : Int)).map V.int := by
      unfold rgV
      rw [List.map_map]
      have : ((bk.length : Int) - 0).toNat = bk.length := by omega
      rw [this]
      refine List.map_congr_left fun i _ => ?_
      show V.int (0 + (i : Int)) = V.int (i : Int)
      rw [Int.zero_add]
    rw [er]
    exact q p _ (fresh_back e2 hp) (e2.trans (Ex.new hp)) upd_same⟩
/-- crowd_of(book, list(range(len(book))))[0] -/
theorem ev_crowdAll {σ : L2.St} {H : Hp} {x : V} {bk : Bk} {ta : TE} (hx : rLst K (rStt K) H x bk) (few : bk.length ≤ 24) (ha : Ev ta σ H x) :
    Ev (tOp (rIxT K) (tCall (sp_crowd_of K) [] E0 (tCons ta (tCons (tLstRg (tRg1 (tCB (rLenS K) (tCons ta tNil)))) tNil))) (tC (.int 0))) σ H (.int (crowd bk (List.range bk.length) : Int)) := fun H1 e Q q =>
  ha H1 e _ fun H2 e2 => ev_range hx few ha H2 (e.trans e2) _ fun p H3 hp e3 h3 =>
    spn_crowd_of (H := H3) (Mono.mono ((e.trans e2).trans e3) hx) (rLst_nat.mpr ⟨p, rfl, sq_of h3⟩) (fun i hi => List.mem_range.mp hi) (by rw [List.length_range]; exact few) H3 (Ex.refl _) _ (fun v H4 e4 r => by
      obtain ⟨t, a, b, rfl, ht⟩ := Mono.mono (R := rCrowd K) new_ex r
      exact ⟨t, _, 0, _, rfl, rfl, ht, rfl, q H4 ((e2.trans e3).trans e4)⟩) E0
theorem ok_lets_row (T : Txt K mg) : FnOk P w K mg base CX0 7 T.d_lets_row.f T.d_lets_row.fd ["book", "thing"] (sp_lets_row K) := by
  refine T.d_lets_row.F.ok sc_lets_row (fun vs H Q E h => ?_) (fun cdv A outer s H vs Q E hr h => ?_)
  · obtain ⟨x, y, bk, st, pp, rfl, _⟩ := h
    rfl
  · obtain ⟨x, y, bk, st, pp, rfl, hx, ⟨t, z1, z2, rfl, ht, h1, h2⟩, few, fst, fch, fpp, q⟩ := h
    dsimp only at h1 h2
    obtain ⟨a1, w1, rfl, l1, A1⟩ := id h1
    obtain ⟨a2, w2, rfl, l2, A2⟩ := id h2
    refine ⟨_, (pss_cons (ps_if (PW.pt (pw_or (pt_not (pt_val (pe_callB (kIsi K) rfl T.n_isinstance (by decide +kernel) (pa_cons (pv 1) (pa_cons (pe_bltn (v := .ty "tuple") rfl T.n_tuple (by decide +kernel) rfl) pa_nil))))) (pw_or (pt_cmpR op_ne (pe_callB (kLen K) rfl T.n_len (by decide +kernel) (pa_cons (pv 1) pa_nil)) pe_int (nomark _)) (pw_or (pt_not (pt_val (pe_callB (kIsi K) rfl T.n_isinstance (by decide +kernel) (pa_cons (pe_ix (kIxT K) (pv 1) pe_int (fun _ _ => rfl)) (pa_cons (pe_bltn (v := .ty "str") rfl T.n_str (by decide +kernel) rfl) pa_nil))))) (pw_or1 (pt_cmpR op_ne (pe_ix (kIxT K) (pv 1) pe_int (fun _ _ => rfl)) pe_str (nomark _))))))) (pss_one (ps_ret pe_bl)) pss_nil)
      (pss_cons (ps_asg (pe_slice (kSlT K) (pv 1) (po_some pe_int) po_none) (kPgT (n := 2) K (pg_tup rfl (pgs_cons (pg_name (i := 2) sc_lets_row.nd rfl (Or.inl rfl)) (pgs_cons (pg_name (i := 3) sc_lets_row.nd rfl (Or.inl rfl)) pgs_nil)))))
      (pss_cons (ps_if (PW.pt (pw_or (pt_not (pt_val (pe_callB (kIsi K) rfl T.n_isinstance (by decide +kernel) (pa_cons (pv 2) (pa_cons (pe_bltn (v := .ty "list") rfl T.n_list (by decide +kernel) rfl) pa_nil))))) (pw_or (pt_not (pt_val (pe_callB (kIsi K) rfl T.n_isinstance (by decide +kernel) (pa_cons (pv 3) (pa_cons (pe_bltn (v := .ty "list") rfl T.n_list (by decide +kernel) rfl) pa_nil))))) (pw_or1 (pt_cmpR op_ne (pe_callB (kLen K) rfl T.n_len (by decide +kernel) (pa_cons (pv 2) pa_nil)) (pe_callB (kLen K) rfl T.n_len (by decide +kernel) (pa_cons (pv 3) pa_nil)) (nomark _)))))) (pss_one (ps_ret pe_bl)) pss_nil)
      (pss_cons (ps_if (pt_cmpR op_ne (pe_callB (kLen K) rfl T.n_len (by decide +kernel) (pa_cons (pv 2) pa_nil)) (pe_op op_add (pe_ix (kIxT K) (pe_call (ok_crowd_of T) (hr.mono (by decide)) rfl T.d_crowd_of.m T.d_crowd_of.F.kp T.d_crowd_of.b .nil pass0 (pa_cons (pv 0) (pa_cons (pe_listRg rfl rfl T.n_list (prg_1 rfl T.n_range (pe_callB (kLen K) rfl T.n_len (by decide +kernel) (pa_cons (pv 0) pa_nil)))) pa_nil))) pe_int (fun _ _ => rfl)) pe_int) (nomark _)) (pss_one (ps_ret pe_bl)) pss_nil)
      (pss_cons (ps_for PassesOwn.never rfl (kPiE K (pi_enum rfl T.n_enumerate (pa_cons (pv 2) pa_nil))) (kPgT (n := 2) K (pg_tup rfl (pgs_cons (pg_name (i := 4) sc_lets_row.nd rfl (Or.inl rfl)) (pgs_cons (pg_name (i := 5) sc_lets_row.nd rfl (Or.inl rfl)) pgs_nil))))
      (pss_one (ps_if (pt_not (pt_val (pe_call (ok_is_step T) (hr.mono (by decide)) rfl T.d_is_step.m T.d_is_step.F.kp T.d_is_step.b .nil pass0 (pa_cons (pv 0) (pa_cons (pv 4) (pa_cons (pv 5) pa_nil)))))) (pss_one (ps_ret pe_bl)) pss_nil)))
      (pss_cons (ps_for PassesOwn.never rfl (kPiE K (pi_enum rfl T.n_enumerate (pa_cons (pv 3) pa_nil))) (kPgT (n := 2) K (pg_tup rfl (pgs_cons (pg_name (i := 4) sc_lets_row.nd rfl (Or.inl rfl)) (pgs_cons (pg_name (i := 6) sc_lets_row.nd rfl (Or.inl rfl)) pgs_nil))))
      (pss_one (ps_if (pt_not (pt_val (pe_call (ok_claims_both T) (hr.mono (by decide)) rfl T.d_claims_both.m T.d_claims_both.F.kp T.d_claims_both.b .nil pass0 (pa_cons (pv 0) (pa_cons (pv 2) (pa_cons (pv 4) (pa_cons (pv 6) pa_nil))))))) (pss_one (ps_ret pe_bl)) pss_nil)))
      (pss_one (ps_ret pe_bl)))))))), ?_⟩
    have i0 : ∀ {H1 : Hp}, Ex H H1 → Ev (tOp (rIxT K) (tVar 1) (tC (.int 0))) (start N_lets_row [x, .ref t]) H1 (.str "row") := fun e => ev_op (ev_var rfl) ev_c (rv_ixT (ex_t e ht) rfl)
    refine q_when (b := false) (et_or (a := false) (b := false) (et_not (a := true) (et_B (ev_isi (ev_var rfl) ev_c (fun _ e => ty_tup (ex_t e ht)) (by decide +kernel)))) fun _ => et_or (a := false) (b := false) (et_test (ev_is (ev_op (ev_cb (ea_cons (ev_var rfl) ea_nil) (rc_lenT ht)) ev_c (rv_ne rfl)) rfl)) fun _ =>
      et_or (a := false) (b := false) (et_not (a := true) (et_B (ev_isi (i0 (Ex.refl _)) ev_c (fun _ e => .base (.str _)) (by decide +kernel)))) fun _ => et_test (ev_is (ev_op (i0 (Ex.refl _)) ev_c (rv_ne rfl)) (by rw [decide_eq_true rfl]; rfl))) (fun hb => nomatch hb) fun _ H1 e1 => ?_
    -- steps, papers = thing[1:]
    refine ⟨_, rfl, _, rfl, t, _, rfl, ex_t e1 ht, (by show ¬ (HT.sIx 3 0 (some 1) = 0 ∧ HT.sIx 3 3 none = 3); decide), fun d hd => ?_⟩
    have eD : Ex H1 (upd H1 d (.tup [.ref a1, .ref a2])) := Ex.new hd
    refine tg_2 (x := .ref a1) (y := .ref a2) (st_of upd_same) _ (Ex.refl _) _ ?_
    have e2 := e1.trans eD
    generalize hH2 : upd H1 d (.tup [V.ref a1, V.ref a2]) = H2
    have e2' : Ex H H2 := by rw [← hH2]; exact e2
    clear hH2
    dsimp only
    refine q_when (b := !decide (V.int (st.length : Int) = V.int (pp.length : Int))) (et_is (et_or (a := false) (et_not (a := true) (et_B (ev_isi (ev_var rfl) ev_c (fun _ e => ty_list (ex_l (e2'.trans e) l1)) (by decide +kernel)))) fun _ => et_is (et_or (a := false) (et_not (a := true) (et_B (ev_isi (ev_var rfl) ev_c (fun _ e => ty_list (ex_l (e2'.trans e) l2)) (by decide +kernel)))) fun _ =>
      et_test (ev_op (lst_len (Mono.mono e2' h1) (ev_var rfl)) (lst_len (Mono.mono e2' h2) (ev_var rfl)) (rv_ne rfl))) (Bool.false_or _)) (Bool.false_or _)) (fun hb H3 e3 => ?_) fun hb H3 e3 => ?_
    · refine s_ret (v := .bl false) ev_c fun H4 e4 => q false ⟨(fun z => nomatch z), fun L => ?_⟩ H4 ((e2'.trans e3).trans e4)
      rw [L.pl] at hb
      simp at hb
    have hpl : st.length = pp.length := by
      by_cases h : V.int (st.length : Int) = V.int (pp.length : Int)
      · injection h with h
        omega
      · rw [decide_eq_false h] at hb
        cases hb
    have e3' := e2'.trans e3
    refine q_when (b := !decide (V.int (st.length : Int) = V.int ((crowd bk (List.range bk.length) : Int) + 1))) (et_test (ev_op (lst_len (Mono.mono e3' h1) (ev_var rfl)) (ev_op (ev_crowdAll (Mono.mono e3' hx) few (ev_var rfl)) ev_c rv_I0) (rv_ne rfl))) (fun hb H4 e4 => ?_) fun hb H4 e4 => ?_
    · refine s_ret (v := .bl false) ev_c fun H5 e5 => q false ⟨(fun z => nomatch z), fun L => ?_⟩ H5 ((e3'.trans e4).trans e5)
      rw [L.sl] at hb
      simp at hb
    have hsl : st.length = crowd bk (List.range bk.length) + 1 := by
      by_cases h : V.int (st.length : Int) = V.int ((crowd bk (List.range bk.length) : Int) + 1)
      · injection h with h
        omega
      · rw [decide_eq_false h] at hb
        cases hb
    have e4' := e3'.trans e4
    -- for benches, step in enumerate(steps)
    refine ⟨_, rfl, a1, w1, rfl, ex_l e4' l1, for_enum (xs := w1) (fun i σ' H' => ∃ v4 v5, σ' = [some x, some (.ref t), some (.ref a1), some (.ref a2), v4, v5, none] ∧ Ex H H' ∧ ∀ j, j < i → StepOk bk j (st.getD j (0, []))) ⟨none, none, rfl, e4', fun j hj => by omega⟩ (fun i σ' H' _ ⟨_, _, _, ee, _⟩ => ex_l ee l1) ?_ ?_⟩
    · rintro i v u σ' H' hi ⟨v4, v5, rfl, eH, hj⟩ hu
      obtain ⟨s0, hs0, r⟩ := A1.of_v hi
      have gs : st.getD i (0, []) = s0 := by rw [List.getD_eq_getElem?_getD, hs0]; rfl
      have hi2 : i < st.length := (List.getElem?_eq_some_iff.mp hs0).1
      have eU : Ex H' (upd H' u (.tup [.int (i : Int), v])) := Ex.new hu
      have dS := Classical.propDecidable (StepOk bk i s0)
      refine tg_2 (st_of upd_same) _ (Ex.refl _) _ ?_
      refine s_when (b := !decide (StepOk bk i s0)) (et_not (et_B (ev_call (ea_cons (ev_var rfl) (ea_cons (ev_var rfl) (ea_cons (ev_var rfl) ea_nil))) (spv_is_step (Mono.mono (eH.trans eU) hx) (Mono.mono (eH.trans eU) r) (fch s0 (List.mem_of_getElem? hs0)) decide_eq_true_iff)))) (fun hb2 H5 e5 => ?_) fun hb2 H5 e5 => ?_
      · refine s_ret (v := .bl false) ev_c fun H6 e6 => q false ⟨(fun z => nomatch z), fun L => ?_⟩ H6 (((eH.trans eU).trans e5).trans e6)
        have := L.ch i hi2
        rw [gs] at this
        rw [decide_eq_true this] at hb2
        cases hb2
      · refine ⟨some (.int (i : Int)), some v, rfl, (eH.trans eU).trans e5, fun j hj' => ?_⟩
        by_cases ej : j = i
        · subst ej
          rw [gs]
          by_cases h : StepOk bk j s0
          · exact h
          · rw [decide_eq_false h] at hb2
            cases hb2
        · exact hj j (by omega)
    · rintro σ' H' ⟨v4, v5, rfl, eH, hch⟩
      rw [A1.1] at hch
      -- for benches, paper in enumerate(papers)
      refine ⟨_, rfl, a2, w2, rfl, ex_l eH l2, for_enum (xs := w2) (fun i σ' H' => ∃ v4 v6, σ' = [some x, some (.ref t), some (.ref a1), some (.ref a2), v4, v5, v6] ∧ Ex H H' ∧ ∀ j, j < i → BothOk bk st j (pp.getD j [])) ⟨_, none, rfl, eH, fun j hj => by omega⟩ (fun i σ' H' _ ⟨_, _, _, ee, _⟩ => ex_l ee l2) ?_ ?_⟩
      · rintro i v u σ' H2 hi ⟨v4, v6, rfl, eH2, hj⟩ hu
        obtain ⟨p0, hp0, r⟩ := A2.of_v hi
        have gp : pp.getD i [] = p0 := by rw [List.getD_eq_getElem?_getD, hp0]; rfl
        have hi2 : i < pp.length := (List.getElem?_eq_some_iff.mp hp0).1
        have eU : Ex H2 (upd H2 u (.tup [.int (i : Int), v])) := Ex.new hu
        have dS := Classical.propDecidable (BothOk bk st i p0)
        refine tg_2 (st_of upd_same) _ (Ex.refl _) _ ?_
        refine s_when (b := !decide (BothOk bk st i p0)) (et_not (et_B (ev_call (ea_cons (ev_var rfl) (ea_cons (ev_var rfl) (ea_cons (ev_var rfl) (ea_cons (ev_var rfl) ea_nil)))) (spv_claims_both (Mono.mono (eH2.trans eU) hx) (Mono.mono (eH2.trans eU) h1) (Mono.mono (eH2.trans eU) r) few (by omega) fst (fpp p0 (List.mem_of_getElem? hp0)) decide_eq_true_iff)))) (fun hb2 H5 e5 => ?_) fun hb2 H5 e5 => ?_
        · refine s_ret (v := .bl false) ev_c fun H6 e6 => q false ⟨(fun z => nomatch z), fun L => ?_⟩ H6 (((eH2.trans eU).trans e5).trans e6)
          have := L.pa i hi2
          rw [gp] at this
          rw [decide_eq_true this] at hb2
          cases hb2
        · refine ⟨some (.int (i : Int)), some v, rfl, (eH2.trans eU).trans e5, fun j hj' => ?_⟩
          by_cases ej : j = i
          · subst ej
            rw [gp]
            by_cases h : BothOk bk st j p0
            · exact h
            · rw [decide_eq_false h] at hb2
              cases hb2
          · exact hj j (by omega)
      · rintro σ' H2 ⟨v4, v6, rfl, eH2, hpa⟩
        rw [A2.1] at hpa
        dsimp only
        refine s_ret (v := .bl true) ev_c fun H3 e3 => ?_
        exact q true ⟨fun _ => ⟨hpl, hsl, hch, hpa⟩, fun _ => rfl⟩ H3 (eH2.trans e3)
theorem spv_lets_row {x y : V} {bk : Bk} {st : Steps} {pp : List Paper} {H : Hp} (hx : rLst K (rStt K) H x bk) (hy : rRow K H y (st, pp)) (few : bk.length ≤ 24) (fst : st.length ≤ 100) (fch : ∀ s ∈ st, s.2.length ≤ 24) (fpp : ∀ p ∈ pp, p.length ≤ 1000) {b : Bool} (hb : b = true ↔ LetsOk bk st pp) :
    SpV (sp_lets_row K) [x, y] H (.bl b) := fun H1 e Q q _ =>
  ⟨x, y, bk, st, pp, rfl, Mono.mono e hx, Mono.mono e hy, few, fst, fch, fpp, fun b' hb' => by
    have : b' = b := Bool.eq_iff_iff.mpr (hb'.trans hb.symm)
    rw [this]
    exact q⟩
/-! ### most_by -/
def sp_most_by (K : Frg) : Sp := fun vs H Q _ => ∃ (x : V) (st : Steps) (pp : List Paper) (k : Nat), vs = [x, .int (k : Int)] ∧ rRow K H x (st, pp) ∧ 0 < st.length ∧ RetV (.int (stepW st (min k (st.length - 1)))) H Q
/-- min(i, len(steps) - 1) -/
theorem ev_minLast {σ : L2.St} {H : Hp} {x : V} {α : Type} {R : Rep α} {xs : List α} {k : Nat} {ta tb : TE} (hx : rLst K R H x xs) (h0 : 0 < xs.length) (ha : Ev ta σ H x) (hb : Ev tb σ H (.int (k : Int))) :
    Ev (tCB (fun xs H Q => ∃ i j, xs = [.int i, .int j] ∧ Q (.int (if j < i then j else i)) H) (tCons tb (tCons (tOp (rI0 fun i j => .int (i - j)) (tCB (rLenS K) (tCons ta tNil)) (tC (.int 1))) tNil))) σ H (.int ((min k (xs.length - 1) : Nat) : Int)) := by
  refine ev_is (ev_cb (ea_cons hb (ea_cons (ev_op (lst_len hx ha) ev_c rv_I0) ea_nil)) rc_min2) ?_
  congr 1
  split <;> omega
theorem ok_most_by (T : Txt K mg) : FnOk P w K mg base CX0 1 T.d_most_by.f T.d_most_by.fd ["row", "benches"] (sp_most_by K) := by
  refine T.d_most_by.F.ok sc_most_by (fun vs H Q E h => ?_) (fun cdv A outer s H vs Q E hr h => ?_)
  · obtain ⟨x, st, pp, k, rfl, _⟩ := h
    rfl
  · obtain ⟨x, st, pp, k, rfl, ⟨t, z1, z2, rfl, ht, h1, h2⟩, h0, q⟩ := h
    refine ⟨_, (pss_one (ps_ret (pe_ix (kIxT K) (pe_ix (kIxL K) (pe_ix (kIxT K) (pv 0) pe_int (fun _ _ => rfl)) (pe_callB (call_min2 rfl) rfl T.n_min (by decide +kernel) (pa_cons (pv 1) (pa_cons (pe_op op_sub (pe_callB (kLen K) rfl T.n_len (by decide +kernel) (pa_cons (pe_ix (kIxT K) (pv 0) pe_int (fun _ _ => rfl)) pa_nil)) pe_int) pa_nil))) (fun _ _ => rfl)) pe_int (fun _ _ => rfl)))), ?_⟩
    refine s_ret (v := .int (stepW st (min k (st.length - 1)))) ?_ q
    have i1 : Ev (tOp (rIxT K) (tVar 0) (tC (.int 1))) (start N_most_by [.ref t, .int (k : Int)]) H z1 := ev_op (ev_var rfl) ev_c (rv_ixT ht rfl)
    exact ev_step0 h1 i1 (ev_minLast h1 h0 i1 (ev_var rfl)) (by omega)
theorem spv_most_by {x : V} {st : Steps} {pp : List Paper} {k : Nat} {H : Hp} (hx : rRow K H x (st, pp)) (h0 : 0 < st.length) : SpV (sp_most_by K) [x, .int (k : Int)] H (.int (stepW st (min k (st.length - 1)))) := fun H1 e Q q _ => ⟨x, st, pp, k, rfl, Mono.mono e hx, h0, q⟩
end
end BW
/-! Spans, pieces, papers made. -/
namespace BW
open PySem L2 Evl
local macro_rules | `(tactic| walk_at "at") => `(tactic| first | rfl | assumption | exact atI_nat (by assumption))
local macro_rules | `(tactic| walk_at "rv") => `(tactic| first | exact rv_I0 | exact rv_eq rfl | exact rv_ne rfl | exact rv_isN | exact rv_notN | exact rv_notB | exact rv_ixL (by assumption) (by walk_at "at") | exact rv_ixT (by assumption) (by walk_at "at") | exact rv_I (by omega))
local macro_rules | `(tactic| walk_at "ev") => `(tactic| first | exact ev_c | exact ev_var rfl | assumption | (apply ev_chain; walk_at "ev"; walk_at "ev"; walk_at "rv"; walk_at "ev"; walk_at "rv") | (apply ev_op; walk_at "ev"; walk_at "ev"; walk_at "rv"))
section
variable {P : Program} {w : World} {K : Frg} {mg : Str → Option Value} {base : Heap}
theorem ev_dget {σ : L2.St} {H : Hp} {td ty : TE} {d : Addr} {kvs : List (L2.Key × V)} {b : Int} {v : V} (h1 : Ev td σ H (.ref d)) (h2 : Ev ty σ H (.int b)) (hd : H d = some (.dK kvs)) (hv : valV kvs (Sum.inl b) = some v) : Ev (tDGet td ty) σ H v := fun H1 e Q q =>
  h1 H1 e _ fun H2 e2 => h2 H2 (e.trans e2) _ fun H3 e3 => ⟨d, v, rfl, by
    have := DGet.k (k := Sum.inl b) (((e.trans e2).trans e3) _ _ hd)
    rw [hv] at this
    exact this, q H3 (e2.trans e3)⟩
theorem filterMap_some {α β : Type} (f : α → β) : ∀ l : List α, l.filterMap (fun a => some (f a)) = l.map f
  | [] => rfl
  | a :: l => by rw [List.filterMap_cons, List.map_cons, filterMap_some f l]
theorem filterMap_if {α : Type} (p : α → Bool) : ∀ l : List α, l.filterMap (fun a => if p a = true then some a else none) = l.filter p
  | [] => rfl
  | a :: l => by
    rw [List.filterMap_cons, List.filter_cons, filterMap_if p l]
    by_cases h : p a = true
    · rw [if_pos h, if_pos h]
    · rw [if_neg h, if_neg h]
theorem idx_at {ms : List Int} (h : Inc ms) {i : Nat} {m : Int} (hm : ms[i]? = some m) : ms.idxOf m = i := by
  have hi := (List.getElem?_eq_some_iff.mp hm).1
  have hmem : m ∈ ms := List.mem_of_getElem? hm
  have hl := idx_lt hmem
  have e1 := idx_get hmem
  have e2 : ms.getD i 0 = m := by rw [List.getD_eq_getElem?_getD, hm]; rfl
  rcases Nat.lt_trichotomy (ms.idxOf m) i with h1 | h1 | h1
  · have := inc_lt h hi h1; omega
  · exact h1
  · have := inc_lt h hl h1; omega
/-! ### spans_of -/
def sp_spans_of (K : Frg) : Sp := fun vs H Q _ => ∃ (x : V) (bk : Bk), vs = [x] ∧ rLst K (rStt K) H x bk ∧ bk.length ≤ 24 ∧ ∀ ms, IsMs bk ms → ms.length ≤ bk.length + bk.length → RetN (fun G v => rTL (rSpn K) G v (spansOf ms bk)) H Q
theorem ok_spans_of (T : Txt K mg) : FnOk P w K mg base CX0 2 T.d_spans_of.f T.d_spans_of.fd ["book"] (sp_spans_of K) := by
  refine T.d_spans_of.F.ok sc_spans_of (fun vs H Q E h => ?_) (fun cdv A outer s H vs Q E hr h => ?_)
  · obtain ⟨x, bk, rfl, _⟩ := h
    rfl
  · obtain ⟨x, bk, rfl, hx, few, q⟩ := h
    refine ⟨_, (pss_cons (ps_set (i := 1) sc_spans_of.nd rfl (Or.inr rfl) pe_dnewK)
      (pss_cons (ps_for PassesOwn.never rfl (kPiE K (pi_enum rfl T.n_enumerate (pa_cons (pe_call (ok_moments_of T) (hr.mono (by decide)) rfl T.d_moments_of.m T.d_moments_of.F.kp T.d_moments_of.b .nil pass0 (pa_cons (pv 0) pa_nil)) pa_nil))) (kPgT (n := 2) K (pg_tup rfl (pgs_cons (pg_name (i := 2) sc_spans_of.nd rfl (Or.inl rfl)) (pgs_cons (pg_name (i := 3) sc_spans_of.nd rfl (Or.inl rfl)) pgs_nil))))
      (pss_one (ps_dput (hu_of hr) (pv 1) (pv 3) (pv 2) rfl)))
      (pss_one (ps_ret (pe_lc (own := [("name", 4), ("begin", 5), ("end", 6), ("worth", 7)]) (g := gTup K 4 (gCons (gName 4) (gCons (gName 5) (gCons (gName 6) (gCons (gName 7) gNil))))) (tt := tYes) rfl sc_spans_of.nd (kPiL K (pv 0)) (blkOk_by (own := [("name", 4), ("begin", 5), ("end", 6), ("worth", 7)]) (N := N_spans_of) (sc := defScope S_spans_of) (by decide +kernel)) (fun _ _ _ _ _ => (kPgT (n := 4) K (pg_tup rfl (pgs_cons (pg_name (i := 4) sc_spans_of.nd rfl (Or.inl rfl)) (pgs_cons (pg_name (i := 5) sc_spans_of.nd rfl (Or.inl rfl)) (pgs_cons (pg_name (i := 6) sc_spans_of.nd rfl (Or.inl rfl)) (pgs_cons (pg_name (i := 7) sc_spans_of.nd rfl (Or.inl rfl)) pgs_nil))))))) (fun _ _ _ _ _ => pts_nil) (fun _ _ _ _ _ => (pe_tup (pa_cons (pe_dget (hu_of hr) (pv 1) (pv 5) (fun _ _ => rfl)) (pa_cons (pe_dget (hu_of hr) (pv 1) (pv 6) (fun _ _ => rfl)) (pa_cons (pv 7) pa_nil)))))))))), ?_⟩
    intro d hd
    have eD : Ex H (upd H d (.dK [])) := Ex.new hd
    refine ⟨_, rfl, ?_⟩
    refine spn_moments_of (E := E0) hx few eD fun ms hms hml v H1 e1 rv => ?_
    obtain ⟨a, rfl, hl⟩ := rLst_int.mp (Mono.mono (R := rLst K rInt) new_ex rv)
    have e01 := eD.trans e1
    refine ⟨a, ms.map V.int, rfl, hl, for_enum (xs := ms.map V.int) (fun i σ' H' => ∃ v2 v3, σ' = [some x, some (.ref d), v2, v3, none, none, none, none] ∧ Ex H H' ∧ SqL K H' a (ms.map V.int) ∧ ∃ kvs, H' d = some (.dK kvs) ∧ kvs.length ≤ i ∧ ∀ m, valV kvs (Sum.inl m) = if m ∈ ms.take i then some (.int (ms.idxOf m : Int)) else none)
      ⟨none, none, rfl, e01, hl, [], e1 _ _ upd_same, Nat.le_refl _, fun m => rfl⟩ (fun i σ' H' _ ⟨_, _, _, _, ll, _⟩ => ll) ?_ ?_⟩
    · rintro i v u σ' H' hi ⟨v2, v3, rfl, eH, ll, kvs, hk, hlen, hv⟩ hu
      rw [List.getElem?_map] at hi
      obtain ⟨m, hm, rfl⟩ := Option.map_eq_some_iff.mp hi
      have hi2 : i < ms.length := (List.getElem?_eq_some_iff.mp hm).1
      have eU : Ex H' (upd H' u (.tup [.int (i : Int), .int m])) := Ex.new hu
      have nud : d ≠ u := fun z => by rw [← z, hk] at hu; cases hu
      refine tg_2 (st_of upd_same) _ (Ex.refl _) _ ?_
      refine ⟨_, rfl, _, rfl, _, rfl, d, _, rfl, DPut.k (k := Sum.inl m) (eU _ _ hk) (sz_lt (by omega)), ?_⟩
      refine ⟨some (.int (i : Int)), some (.int m), rfl, Ex.mut (eH.trans eU) hd, ?_, _, upd_same, ?_, fun m' => ?_⟩
      · exact sql_mut (ex_l eU ll) (eU _ _ hk) (fun _ z => nomatch z) (fun _ _ z => nomatch z)
      · have := length_putK kvs (Sum.inl m : L2.Key) (V.int (i : Int))
        omega
      · rw [valV_put, hv m', List.take_add_one, hm]
        by_cases em : m' = m
        · subst em
          rw [if_pos rfl, if_pos (by simp), idx_at hms.inc hm]
        · have e1 : ¬ ((Sum.inl m' : L2.Key) = Sum.inl m) := fun z => em (by injection z)
          rw [if_neg e1]
          by_cases hin : m' ∈ ms.take i
          · rw [if_pos hin, if_pos (by simp [hin])]
          · rw [if_neg hin, if_neg (by simp [hin, em])]
    · rintro σ' H' ⟨v2, v3, rfl, eH, ll, kvs, hk, hlen, hv⟩
      rw [List.length_map, List.take_length] at hv
      dsimp only
      have hfm : ∀ s ∈ bk, s.1 ∈ ms ∧ s.2.1 ∈ ms := fun s0 hs => ⟨(hms.mem _).mpr (List.mem_append_left _ (List.mem_map.mpr ⟨s0, hs, rfl⟩)), (hms.mem _).mpr (List.mem_append_right _ (List.mem_map.mpr ⟨s0, hs, rfl⟩))⟩
      have key := evb_lcU (K := K) (R := rStt K) (S := rSpn K) (H := H') (B := H) (σ := [some x, some (.ref d), v2, v3, none, none, none, none]) (vs := [4, 5, 6, 7]) (tl := tVar 0) (t := tYes) (te := tTup (tCons (tDGet (tVar 1) (tVar 5)) (tCons (tDGet (tVar 1) (tVar 6)) (tCons (tVar 7) tNil)))) (g := gTup K 4 (gCons (gName 4) (gCons (gName 5) (gCons (gName 6) (gCons (gName 7) gNil)))))
        (fun s => some ((ms.idxOf s.1, ms.idxOf s.2.1, s.2.2) : Spn)) (Sub.of eH) (ev_var rfl) (Mono.mono eH hx) (by omega) fun v s0 hs0 ⟨t0, n0, e0, ht0⟩ => by
          subst e0
          refine ⟨_, tg_4 ht0, rfl, fun H1 _ => et_yes, fun H1 B1 b eH1 sB hb => ?_⟩
          cases hb
          obtain ⟨m1, m2⟩ := hfm s0 hs0
          refine evb_tup (ea_cons (ev_dget (ev_var rfl) (ev_var rfl) (eH1 _ _ hk) (v := .int (ms.idxOf s0.1 : Int)) (by rw [hv, if_pos m1])) (ea_cons (ev_dget (ev_var rfl) (ev_var rfl) (eH1 _ _ hk) (v := .int (ms.idxOf s0.2.1 : Int)) (by rw [hv, if_pos m2])) (ea_cons (ev_var rfl) ea_nil))) (by simp) sB fun G p hp _ => ⟨p, rfl, st_of hp⟩
      rw [filterMap_some] at key
      exact b_ret key fun v H1 e1 r => q ms hms hml v H1 (eH.trans e1) r
/-! ### pieces_of -/
def sp_pieces_of (K : Frg) : Sp := fun vs H Q _ => ∃ (x : V) (bk : Bk), vs = [x] ∧ rLst K (rStt K) H x bk ∧ bk.length ≤ 24 ∧ ∀ ms, IsMs bk ms → ms.length ≤ bk.length + bk.length → RetN (fun G v => rTL rInt G v ms.dropLast) H Q
theorem cut_last {xs : List V} : cutV xs none (some (-1)) = xs.dropLast := by
  unfold cutV
  have e : HT.sIx xs.length xs.length (some (-1)) = xs.length - 1 := by
    show (if (-1 : Int) < 0 then ((-1 : Int) + (xs.length : Int)).toNat else min (-1 : Int).toNat xs.length) = _
    rw [if_pos (by decide)]
    omega
  rw [e, HT.sIx_none, List.drop_zero, Nat.sub_zero, List.dropLast_eq_take]
theorem ok_pieces_of (T : Txt K mg) : FnOk P w K mg base CX0 2 T.d_pieces_of.f T.d_pieces_of.fd ["book"] (sp_pieces_of K) := by
  refine T.d_pieces_of.F.ok sc_pieces_of (fun vs H Q E h => ?_) (fun cdv A outer s H vs Q E hr h => ?_)
  · obtain ⟨x, bk, rfl, _⟩ := h
    rfl
  · obtain ⟨x, bk, rfl, hx, few, q⟩ := h
    refine ⟨_, (pss_one (ps_ret (pe_slice (kSlL K) (pe_call (ok_moments_of T) (hr.mono (by decide)) rfl T.d_moments_of.m T.d_moments_of.F.kp T.d_moments_of.b .nil pass0 (pa_cons (pv 0) pa_nil)) po_none (po_some (pe_un un_neg pe_int))))), ?_⟩
    refine ⟨_, rfl, ?_⟩
    refine spn_moments_of (E := E0) hx few (Ex.refl H) fun ms hms hml v H1 e1 rv => ?_
    obtain ⟨a, rfl, hl⟩ := rLst_int.mp (Mono.mono (R := rLst K rInt) new_ex rv)
    refine ⟨1, rfl, -1, rfl, a, _, rfl, hl, fun p hp => ?_⟩
    rw [cut_last, ← List.map_dropLast]
    have hp0 : H p = none := fresh_back e1 hp
    exact q ms hms hml _ _ (e1.trans (Ex.new hp)) ⟨p, _, rfl, by rw [new_of hp0, upd_same], int_all2 _⟩
/-! ### paper_of -/
def sp_paper_of (K : Frg) : Sp := fun vs H Q _ => ∃ (x y : V) (ms ps : List Int), vs = [x, y] ∧ rLst K rInt H x ms ∧ rLst K rInt H y ps ∧ ms.length = ps.length ∧ ms.length ≤ 1000 ∧ RetN (fun G v => rTL (rII K) G v ((ms.zip ps).filter fun q => decide (q.2 > 0))) H Q
theorem ok_paper_of (T : Txt K mg) : FnOk P w K mg base CX0 1 T.d_paper_of.f T.d_paper_of.fd ["moments", "prices"] (sp_paper_of K) := by
  refine T.d_paper_of.F.ok sc_paper_of (fun vs H Q E h => ?_) (fun cdv A outer s H vs Q E hr h => ?_)
  · obtain ⟨x, y, ms, ps, rfl, _⟩ := h
    rfl
  · obtain ⟨x, y, ms, ps, rfl, hx, hy, hlen, few, q⟩ := h
    obtain ⟨a, rfl, ha⟩ := rLst_int.mp hx
    obtain ⟨b, rfl, hb⟩ := rLst_int.mp hy
    refine ⟨_, (pss_one (ps_ret (pe_lc (own := [("moment", 2), ("price", 3)]) (g := gTup K 2 (gCons (gName 2) (gCons (gName 3) gNil))) rfl sc_paper_of.nd (kPiZ K (pi_zip rfl T.n_zip (pa_cons (pv 0) (pa_cons (pv 1) pa_nil)))) (blkOk_by (own := [("moment", 2), ("price", 3)]) (N := N_paper_of) (sc := defScope S_paper_of) (by decide +kernel)) (fun _ _ _ _ _ => (kPgT (n := 2) K (pg_tup rfl (pgs_cons (pg_name (i := 2) sc_paper_of.nd rfl (Or.inl rfl)) (pgs_cons (pg_name (i := 3) sc_paper_of.nd rfl (Or.inl rfl)) pgs_nil))))) (fun _ _ _ _ _ => (pts_one (pt_cmpR op_gt (pv 3) pe_int (nomark _)))) (fun _ _ _ _ _ => (pe_tup (pa_cons (pv 2) (pa_cons (pv 3) pa_nil))))))), ?_⟩
    have key := evb_lcZ (K := K) (S := rII K) (H := H) (B := H) (σ := start N_paper_of [.ref a, .ref b]) (vs := [2, 3]) (i0 := 2) (j0 := 3) (ta := tCons (tVar 0) (tCons (tVar 1) tNil)) (t := tTest (tOp (rI0 fun i j => .bl (decide (j < i))) (tVar 3) (tC (.int 0)))) (te := tTup (tCons (tVar 2) (tCons (tVar 3) tNil)))
      (fun i => ((ms.zip ps)[i]?).bind fun q => if decide (q.2 > 0) = true then some q else none) (Sub.refl H) (ea_cons (ev_var rfl) (ea_cons (ev_var rfl) ea_nil)) ha hb (by rw [List.length_map, List.length_map, hlen]) (by rw [List.length_map]; omega) (fun _ _ => rfl)
      (fun i v u H1 e hv hu => by
        rw [List.getElem?_map] at hv hu
        obtain ⟨m, hm, rfl⟩ := Option.map_eq_some_iff.mp hv
        obtain ⟨p, hp, rfl⟩ := Option.map_eq_some_iff.mp hu
        have hz : (ms.zip ps)[i]? = some (m, p) := List.getElem?_zip_eq_some.mpr ⟨hm, hp⟩
        refine et_is (et_test (ev_op (ev_var rfl) ev_c rv_I0)) ?_
        rw [hz]
        show decide (0 < p) = (if decide (p > 0) = true then some (m, p) else none).isSome
        by_cases h : p > 0
        · rw [decide_eq_true h, if_pos rfl]; rfl
        · rw [decide_eq_false h, if_neg (by decide)]; rfl)
      (fun i v u H1 B1 c e sB hv hu hc => by
        rw [List.getElem?_map] at hv hu
        obtain ⟨m, hm, rfl⟩ := Option.map_eq_some_iff.mp hv
        obtain ⟨p, hp, rfl⟩ := Option.map_eq_some_iff.mp hu
        have hz : (ms.zip ps)[i]? = some (m, p) := List.getElem?_zip_eq_some.mpr ⟨hm, hp⟩
        rw [hz] at hc
        have hc' : (if decide (p > 0) = true then some (m, p) else none) = some c := hc
        have ec : c = (m, p) := by
          split at hc'
          · exact (Option.some.inj hc').symm
          · cases hc'
        subst ec
        exact evb_tup (ea_cons (ev_var rfl) (ea_cons (ev_var rfl) ea_nil)) (by simp) sB fun G p hp _ => ⟨p, rfl, st_of hp⟩)
    have e1 : (List.range (ms.map V.int).length).filterMap (fun i => ((ms.zip ps)[i]?).bind fun q => if decide (q.2 > 0) = true then some q else none) = (ms.zip ps).filter fun q => decide (q.2 > 0) := by
      have e2 : (ms.map V.int).length = (ms.zip ps).length := by rw [List.length_map, List.length_zip, hlen, Nat.min_self]
      rw [e2, range_filterMap (ms.zip ps) _ (fun q => if decide (q.2 > 0) = true then some q else none) fun i x hx => by rw [hx]; rfl, filterMap_if]
    rw [e1] at key
    exact b_ret key fun v H1 e1 r => q v H1 e1 r
end
end BW
/-! The class: its object, single arcs, what is taken. -/
namespace BW
open PySem L2 Evl
local macro_rules | `(tactic| walk_at "at") => `(tactic| first | rfl | assumption | exact atI_nat (by assumption))
local macro_rules | `(tactic| walk_at "rv") => `(tactic| first | exact rv_I0 | exact rv_eq rfl | exact rv_ne rfl | exact rv_isN | exact rv_notN | exact rv_notB | exact rv_ixL (by assumption) (by walk_at "at") | exact rv_ixT (by assumption) (by walk_at "at") | exact rv_I (by omega))
local macro_rules | `(tactic| walk_at "ev") => `(tactic| first | exact ev_c | exact ev_var rfl | assumption | (apply ev_chain; walk_at "ev"; walk_at "ev"; walk_at "rv"; walk_at "ev"; walk_at "rv") | (apply ev_op; walk_at "ev"; walk_at "ev"; walk_at "rv"))
/-! ### the object -/
structure La where
  o : Addr
  l1 : Addr
  l2 : Addr
  l3 : Addr
  l4 : Addr
  l5 : Addr
  dx : Addr
  g : Int
def La.fs (L : La) : List (Str × V) := [("own_spans", .ref L.l1), ("own_must", .ref L.l2), ("filled", .ref L.l3), ("idle", .ref L.l4), ("taken", .ref L.l5), ("great", .int L.g)]
/-- a heap with the two lists that change -/
def La.two (L : La) : Hp := upd (upd (fun _ => none) L.l4 (.lst [])) L.l5 (.lst [])
/-- the others are kept -/
def La.Kept (L : La) (H H' : Hp) : Prop := Ex (New L.two H) (New L.two H')
structure LineAt (K : Frg) (C : Addr) (L : La) (N : Nat) (sp : List Spn) (s : Ln) (H : Hp) : Prop where
  ob : H L.o = some (.ins C L.dx L.fs)
  h1 : ∃ vs, H L.l1 = some (.lst vs) ∧ All2 (rSpn K (New L.two H)) vs sp
  h2 : H L.l2 = some (.lst (List.replicate N (.int 0)))
  h3 : H L.l3 = some (.lst (List.replicate N (.int 0)))
  h4 : H L.l4 = some (.lst (s.1.map V.int))
  h5 : H L.l5 = some (.lst (s.2.map V.bl))
  li : s.1.length = N
  lt : s.2.length = sp.length
  lN : N ≤ 1000
  lS : sp.length ≤ 1000
  n45 : L.l4 ≠ L.l5
  n1 : L.l1 ≠ L.l4 ∧ L.l1 ≠ L.l5
  n2 : L.l2 ≠ L.l4 ∧ L.l2 ≠ L.l5
  n3 : L.l3 ≠ L.l4 ∧ L.l3 ≠ L.l5
section
variable {K : Frg} {C : Addr} {L : La} {N : Nat} {sp : List Spn} {s : Ln} {H H' : Hp}
theorem LineAt.mono (e : Ex H H') (A : LineAt K C L N sp s H) : LineAt K C L N sp s H' := by
  obtain ⟨vs, q1, q2⟩ := A.h1
  exact ⟨e _ _ A.ob, ⟨vs, e _ _ q1, q2.mono fun _ _ => Mono.mono (new_mono e)⟩, e _ _ A.h2, e _ _ A.h3, e _ _ A.h4, e _ _ A.h5, A.li, A.lt, A.lN, A.lS, A.n45, A.n1, A.n2, A.n3⟩
theorem La.two_none {b : Addr} (h4 : b ≠ L.l4) (h5 : b ≠ L.l5) : L.two b = none := by
  unfold La.two
  rw [upd_ne h5, upd_ne h4]
theorem La.kept_at {b : Addr} {o : HO} (k : L.Kept H H') (h4 : b ≠ L.l4) (h5 : b ≠ L.l5) (h : H b = some o) : H' b = some o := by
  have := k b o (by rw [new_of (L.two_none h4 h5)]; exact h)
  exact new_ex _ _ this
theorem La.Kept.of (e : Ex H H') : L.Kept H H' := new_mono e
theorem La.Kept.trans {H2 : Hp} (a : L.Kept H H') (b : L.Kept H' H2) : L.Kept H H2 := Ex.trans a b
theorem La.two_same {o : HO} {b : Addr} (h : b = L.l4 ∨ b = L.l5) : New L.two (upd H b o) = New L.two H := by
  have : ∃ u, L.two b = some u := by
    unfold La.two
    by_cases e : b = L.l5
    · rw [e]; exact ⟨_, upd_same⟩
    · rw [upd_ne e]
      rcases h with h | h
      · rw [h]; exact ⟨_, upd_same⟩
      · exact absurd h e
  obtain ⟨u, hu⟩ := this
  exact new_mut hu
theorem LineAt.set4 (A : LineAt K C L N sp s H) {xs : List Int} (hl : xs.length = N) : LineAt K C L N sp (xs, s.2) (upd H L.l4 (.lst (xs.map V.int))) := by
  have no : L.o ≠ L.l4 := fun z => by have a := A.ob; rw [z, A.h4] at a; cases a
  obtain ⟨vs, q1, q2⟩ := A.h1
  exact ⟨by rw [upd_ne no]; exact A.ob, ⟨vs, by rw [upd_ne A.n1.1]; exact q1, by rw [L.two_same (.inl rfl)]; exact q2⟩, by rw [upd_ne A.n2.1]; exact A.h2, by rw [upd_ne A.n3.1]; exact A.h3, upd_same, by rw [upd_ne (Ne.symm A.n45)]; exact A.h5, hl, A.lt, A.lN, A.lS, A.n45, A.n1, A.n2, A.n3⟩
theorem LineAt.set5 (A : LineAt K C L N sp s H) {bs : List Bool} (hl : bs.length = sp.length) : LineAt K C L N sp (s.1, bs) (upd H L.l5 (.lst (bs.map V.bl))) := by
  have no : L.o ≠ L.l5 := fun z => by have a := A.ob; rw [z, A.h5] at a; cases a
  obtain ⟨vs, q1, q2⟩ := A.h1
  exact ⟨by rw [upd_ne no]; exact A.ob, ⟨vs, by rw [upd_ne A.n1.2]; exact q1, by rw [L.two_same (.inr rfl)]; exact q2⟩, by rw [upd_ne A.n2.2]; exact A.h2, by rw [upd_ne A.n3.2]; exact A.h3, by rw [upd_ne A.n45]; exact A.h4, upd_same, A.li, hl, A.lN, A.lS, A.n45, A.n1, A.n2, A.n3⟩
theorem rep_at {n k : Nat} {v : V} (h : k < n) : atI (List.replicate n v) (k : Int) = some v := atI_nat (by rw [List.getElem?_replicate, if_pos h])
theorem idl_at {k : Nat} (h : k < s.1.length) : atI (s.1.map V.int) (k : Int) = some (.int (idl s k)) := atI_nat (by
  unfold idl
  rw [List.getElem?_map, List.getD_eq_getElem?_getD, List.getElem?_eq_getElem h]; rfl)
theorem tkn_at {i : Nat} (h : i < s.2.length) : atI (s.2.map V.bl) (i : Int) = some (.bl (tkn s i)) := atI_nat (by
  unfold tkn
  rw [List.getElem?_map, List.getD_eq_getElem?_getD, List.getElem?_eq_getElem h]; rfl)
variable {σ : L2.St} {te ta : TE}
theorem LineAt.f1 (A : LineAt K C L N sp s H) (h : Ev te σ H (.ref L.o)) (c : Cls K C) (n : NoAttr K C "own_spans") : Ev (tFld K te "own_spans") σ H (.ref L.l1) := ev_fld h A.ob c n rfl
theorem LineAt.f2 (A : LineAt K C L N sp s H) (h : Ev te σ H (.ref L.o)) (c : Cls K C) (n : NoAttr K C "own_must") : Ev (tFld K te "own_must") σ H (.ref L.l2) := ev_fld h A.ob c n rfl
theorem LineAt.f3 (A : LineAt K C L N sp s H) (h : Ev te σ H (.ref L.o)) (c : Cls K C) (n : NoAttr K C "filled") : Ev (tFld K te "filled") σ H (.ref L.l3) := ev_fld h A.ob c n rfl
theorem LineAt.f4 (A : LineAt K C L N sp s H) (h : Ev te σ H (.ref L.o)) (c : Cls K C) (n : NoAttr K C "idle") : Ev (tFld K te "idle") σ H (.ref L.l4) := ev_fld h A.ob c n rfl
theorem LineAt.f5 (A : LineAt K C L N sp s H) (h : Ev te σ H (.ref L.o)) (c : Cls K C) (n : NoAttr K C "taken") : Ev (tFld K te "taken") σ H (.ref L.l5) := ev_fld h A.ob c n rfl
theorem LineAt.lenN (A : LineAt K C L N sp s H) (h : Ev te σ H (.ref L.o)) (c : Cls K C) (n : NoAttr K C "own_must") : Ev (tCB (rLenS K) (tCons (tFld K te "own_must") tNil)) σ H (.int (N : Int)) := by
  have := ev_cb (ea_cons (A.f2 h c n) ea_nil) (rc_len (K := K) (sq_of A.h2))
  rwa [List.length_replicate] at this
theorem LineAt.lenS (A : LineAt K C L N sp s H) (h : Ev te σ H (.ref L.o)) (c : Cls K C) (n : NoAttr K C "own_spans") : Ev (tCB (rLenS K) (tCons (tFld K te "own_spans") tNil)) σ H (.int (sp.length : Int)) := by
  obtain ⟨vs, q1, q2⟩ := A.h1
  have := ev_cb (ea_cons (A.f1 h c n) ea_nil) (rc_len (K := K) (sq_of q1))
  rwa [q2.1] at this
theorem LineAt.i3 (A : LineAt K C L N sp s H) (h : Ev te σ H (.ref L.o)) (c : Cls K C) (n : NoAttr K C "filled") {k : Nat} (hk : k < N) (hb : Ev ta σ H (.int (k : Int))) : Ev (tOp (rIxL K) (tFld K te "filled") ta) σ H (.int 0) := ev_op (A.f3 h c n) hb (rv_ixL (sq_of A.h3) (rep_at hk))
theorem LineAt.i2 (A : LineAt K C L N sp s H) (h : Ev te σ H (.ref L.o)) (c : Cls K C) (n : NoAttr K C "own_must") {k : Nat} (hk : k < N) (hb : Ev ta σ H (.int (k : Int))) : Ev (tOp (rIxL K) (tFld K te "own_must") ta) σ H (.int 0) := ev_op (A.f2 h c n) hb (rv_ixL (sq_of A.h2) (rep_at hk))
theorem LineAt.i4 (A : LineAt K C L N sp s H) (h : Ev te σ H (.ref L.o)) (c : Cls K C) (n : NoAttr K C "idle") {k : Nat} (hk : k < N) (hb : Ev ta σ H (.int (k : Int))) : Ev (tOp (rIxL K) (tFld K te "idle") ta) σ H (.int (idl s k)) := ev_op (A.f4 h c n) hb (rv_ixL (sq_of A.h4) (idl_at (by rw [A.li]; exact hk)))
theorem LineAt.i5 (A : LineAt K C L N sp s H) (h : Ev te σ H (.ref L.o)) (c : Cls K C) (n : NoAttr K C "taken") {i : Nat} (hi : i < sp.length) (hb : Ev ta σ H (.int (i : Int))) : Ev (tOp (rIxL K) (tFld K te "taken") ta) σ H (.bl (tkn s i)) := ev_op (A.f5 h c n) hb (rv_ixL (sq_of A.h5) (tkn_at (by rw [A.lt]; exact hi)))
theorem LineAt.i1 (A : LineAt K C L N sp s H) (h : Ev te σ H (.ref L.o)) (c : Cls K C) (n : NoAttr K C "own_spans") {i : Nat} (hi : i < sp.length) (hb : Ev ta σ H (.int (i : Int))) : ∃ t, SqT K H t [.int ((spn sp i).1 : Int), .int ((spn sp i).2.1 : Int), .int (spn sp i).2.2] ∧ Ev (tOp (rIxL K) (tFld K te "own_spans") ta) σ H (.ref t) := by
  obtain ⟨vs, q1, q2⟩ := A.h1
  obtain ⟨y, hy, t, rfl, ht⟩ := q2.at_ (List.getElem?_eq_getElem hi)
  have e : spn sp i = sp[i] := by unfold spn; rw [List.getD_eq_getElem?_getD, List.getElem?_eq_getElem hi]; rfl
  rw [e]
  exact ⟨t, ex_t new_ex ht, ev_op (A.f1 h c n) hb (rv_ixL (sq_of q1) (atI_nat hy))⟩
end
section
variable {P : Program} {w : World} {K : Frg} {mg : Str → Option Value} {base : Heap}
section
variable {σ : L2.St} {H : Hp} {te : TE} {D : Ends} {tz : TS}
theorem c_lst1U {i : Nat} {xs : List V} (h : EvU te σ H xs) (k : ∀ t p H1, H t = none → H p = none → Ex H H1 → H1 t = some (.tup xs) → H1 p = some (.lst [.ref t]) → tz D (σ.set i (some (.ref p))) H1) : tSeq (tAsg (tLst (tCons te tNil)) (gName i)) tz D σ H :=
  h H (Ex.refl H) _ fun t H1 ht e h1 => ⟨by show 1 ≤ sizeLine; decide, fun p hp => by
    refine k t p _ ht (fresh_back e hp) (e.trans (Ex.new hp)) ?_ upd_same
    rw [upd_ne (fun z => by rw [← z, h1] at hp; cases hp)]
    exact h1⟩
theorem c_asgT {v : V} {g : TG} {σ2 : L2.St} (h : Ev te σ H v) (hg : Tg g v σ H σ2) (k : ∀ H1, Ex H H1 → tz D σ2 H1) : tSeq (tAsg te g) tz D σ H := h H (Ex.refl H) _ fun H1 e => hg H1 e _ (k H1 e)
end
/-! ### piece_arcs -/
def sp_piece_arcs (K : Frg) (C : Addr) : Sp := fun vs H Q _ => ∃ (L : La) (N : Nat) (sp : List Spn) (s : Ln) (k : Nat), vs = [.ref L.o, .int (k : Int)] ∧ LineAt K C L N sp s H ∧ k < N ∧ RetN (fun G v => rTL (rArc K) G v (pieceArcs s.1 k)) H Q
theorem ok_piece_arcs (T : Txt K mg) : FnOk P w K mg base CX0 1 T.m_piece_arcs.f T.m_piece_arcs.fd ["self", "k"] (sp_piece_arcs K T.C) := by
  refine T.m_piece_arcs.F.ok sc_piece_arcs (fun vs H Q E h => ?_) (fun cdv A outer s H vs Q E hr h => ?_)
  · obtain ⟨L, N, sp, s, k, rfl, _⟩ := h
    rfl
  · obtain ⟨L, N, sp, s, k, rfl, A1, hk, q⟩ := h
    refine ⟨_, (pss_cons (ps_set (i := 2) sc_piece_arcs.nd rfl (Or.inl rfl) (pe_lst (pa_cons (pe_tup (pa_cons (pv 1) (pa_cons (pe_op op_add (pv 1) pe_int) (pa_cons pe_int (pa_cons pe_str (pa_cons (pv 1) pa_nil)))))) pa_nil)))
      (pss_cons (ps_if (pt_cmpR op_lt (pe_ix (kIxL K) (kFld K (pv 0) rfl) (pv 1) (fun _ _ => rfl)) (pe_ix (kIxL K) (kFld K (pv 0) rfl) (pv 1) (fun _ _ => rfl)) (nomark _)) (pss_one (ps_expr (kBM K (pe_bm PySem.F.plainAttrs_list PySem.F.slot_list_append PySem.F.type_list_append mt_append (pv 2) (pa_cons (pe_tup (pa_cons (pv 1) (pa_cons (pe_op op_add (pv 1) pe_int) (pa_cons (kFld K (pv 0) rfl) (pa_cons pe_str (pa_cons (pv 1) pa_nil)))))) pa_nil))))) pss_nil)
      (pss_cons (ps_if (pt_cmpR op_gt (pe_ix (kIxL K) (kFld K (pv 0) rfl) (pv 1) (fun _ _ => rfl)) pe_int (nomark _)) (pss_one (ps_expr (kBM K (pe_bm PySem.F.plainAttrs_list PySem.F.slot_list_append PySem.F.type_list_append mt_append (pv 2) (pa_cons (pe_tup (pa_cons (pe_op op_add (pv 1) pe_int) (pa_cons (pv 1) (pa_cons pe_int (pa_cons pe_str (pa_cons (pv 1) pa_nil)))))) pa_nil))))) pss_nil)
      (pss_cons (ps_if (pt_cmpR op_gt (pe_ix (kIxL K) (kFld K (pv 0) rfl) (pv 1) (fun _ _ => rfl)) pe_int (nomark _)) (pss_one (ps_expr (kBM K (pe_bm PySem.F.plainAttrs_list PySem.F.slot_list_append PySem.F.type_list_append mt_append (pv 2) (pa_cons (pe_tup (pa_cons (pe_op op_add (pv 1) pe_int) (pa_cons (pv 1) (pa_cons (pe_op op_sub pe_int (kFld K (pv 0) rfl)) (pa_cons pe_str (pa_cons (pv 1) pa_nil)))))) pa_nil))))) pss_nil)
      (pss_one (ps_ret (pv 2))))))), ?_⟩
    have k1 : Ev (tOp (rI0 fun i j => .int (i + j)) (tVar 1) (tC (.int 1))) (start N_piece_arcs [.ref L.o, .int (k : Int)]) H (.int ((k + 1 : Nat) : Int)) := ev_is (ev_op (ev_var rfl) ev_c rv_I0) rfl
    refine c_lst1U (eu_tup (ea_cons (ev_var rfl) (ea_cons k1 (ea_cons ev_c (ea_cons ev_c (ea_cons (ev_var rfl) ea_nil))))) (by simp)) fun t p H1 ht hp e1 h1 h2 => ?_
    have A2 := A1.mono e1
    refine q_when (b := false) (et_test (ev_is (ev_op (A2.i3 (ev_var rfl) T.cl T.a_filled hk (ev_var rfl)) (A2.i2 (ev_var rfl) T.cl T.a_own_must hk (ev_var rfl)) rv_I0) rfl)) (fun hb => nomatch hb) fun _ H2 e2 => ?_
    have A3 := A2.mono e2
    have ra : ∀ H3, Ex H2 H3 → rArc K (New H H3) (.ref t) ⟨k, k + 1, 0, 0, k⟩ := fun H3 e3 => ⟨t, rfl, st_of (by rw [new_of ht]; exact e3 _ _ (e2 _ _ h1))⟩
    refine q_when (b := decide (0 < idl s k)) (et_test (ev_op (A3.i4 (ev_var rfl) T.cl T.a_idle hk (ev_var rfl)) ev_c rv_I0)) (fun hb H3 e3 => ?_) fun hb H3 e3 => ?_
    · have k1' : Ev (tOp (rI0 fun i j => .int (i + j)) (tVar 1) (tC (.int 1))) [some (.ref L.o), some (.int (k : Int)), some (.ref p)] H3 (.int ((k + 1 : Nat) : Int)) := ev_is (ev_op (ev_var rfl) ev_c rv_I0) rfl
      refine s_appU (e3 _ _ (e2 _ _ h2)) (ev_var rfl) (eu_tup (ea_cons k1' (ea_cons (ev_var rfl) (ea_cons ev_c (ea_cons ev_c (ea_cons (ev_var rfl) ea_nil))))) (by simp)) (by simp) fun t2 H4 ht2 e4 h4 => ?_
      have np : p ≠ t2 := fun z => by rw [← z, e3 _ _ (e2 _ _ h2)] at ht2; cases ht2
      have eH4 : Ex H H4 := (((e1.trans e2).trans e3).trans e4)
      have e5 : Ex H (upd H4 p (.lst ([.ref t] ++ [.ref t2]))) := Ex.mut eH4 hp
      have A5 := A1.mono e5
      refine q_when (b := false) (et_test (ev_is (ev_op (A5.i3 (ev_var rfl) T.cl T.a_filled hk (ev_var rfl)) ev_c rv_I0) rfl)) (fun hb => nomatch hb) fun _ H6 e6 => ?_
      refine s_ret (v := .ref p) (ev_var rfl) fun H7 e7 => q _ _ ((e5.trans e6).trans e7) ⟨p, _, rfl, by rw [new_of hp]; exact (e6.trans e7) _ _ upd_same, ?_⟩
      have e0 : pieceArcs s.1 k = [⟨k, k + 1, 0, 0, k⟩] ++ [⟨k + 1, k, 0, 1, k⟩] := by unfold pieceArcs; rw [if_pos (show 0 < s.1.getD k 0 from of_decide_eq_true hb)]
      have nt : t ≠ p := fun z => by have a := e2 _ _ h1; rw [z, e2 _ _ h2] at a; cases a
      have ht20 : H t2 = none := fresh_back ((e1.trans e2).trans e3) ht2
      rw [e0]
      refine All2.snoc (All2.snoc All2.nil ⟨t, rfl, st_of ?_⟩) ⟨t2, rfl, st_of ?_⟩
      · rw [new_of ht]
        exact (e6.trans e7) _ _ (by rw [upd_ne nt]; exact e4 _ _ (e3 _ _ (e2 _ _ h1)))
      · rw [new_of ht20]
        exact (e6.trans e7) _ _ (by rw [upd_ne (Ne.symm np)]; exact h4)
    · refine q_when (b := false) (et_test (ev_is (ev_op ((A3.mono e3).i3 (ev_var rfl) T.cl T.a_filled hk (ev_var rfl)) ev_c rv_I0) rfl)) (fun hb => nomatch hb) fun _ H6 e6 => ?_
      refine s_ret (v := .ref p) (ev_var rfl) fun H7 e7 => q _ _ ((((e1.trans e2).trans e3).trans e6).trans e7) ⟨p, _, rfl, by rw [new_of hp]; exact (e6.trans e7) _ _ (e3 _ _ (e2 _ _ h2)), ?_⟩
      have e0 : pieceArcs s.1 k = [⟨k, k + 1, 0, 0, k⟩] := by unfold pieceArcs; rw [if_neg (show ¬ 0 < s.1.getD k 0 from of_decide_eq_false hb)]; rfl
      rw [e0]
      exact All2.snoc All2.nil (ra H7 ((e3.trans e6).trans e7))
theorem spn_piece_arcs {C : Addr} {L : La} {N : Nat} {sp : List Spn} {s : Ln} {k : Nat} {H : Hp} (A : LineAt K C L N sp s H) (hk : k < N) : SpN (sp_piece_arcs K C) [.ref L.o, .int (k : Int)] H (fun G v => rTL (rArc K) G v (pieceArcs s.1 k)) := fun H1 e Q q _ => ⟨L, N, sp, s, k, rfl, A.mono e, hk, q⟩
/-! ### span_arc -/
def sp_span_arc (K : Frg) (C : Addr) : Sp := fun vs H Q _ => ∃ (L : La) (N : Nat) (sp : List Spn) (s : Ln) (i : Nat), vs = [.ref L.o, .int (i : Int)] ∧ LineAt K C L N sp s H ∧ i < sp.length ∧ RetN (fun G v => rArc K G v (spanArc sp s.2 i)) H Q
theorem ok_span_arc (T : Txt K mg) : FnOk P w K mg base CX0 1 T.m_span_arc.f T.m_span_arc.fd ["self", "i"] (sp_span_arc K T.C) := by
  refine T.m_span_arc.F.ok sc_span_arc (fun vs H Q E h => ?_) (fun cdv A outer s H vs Q E hr h => ?_)
  · obtain ⟨L, N, sp, s, k, rfl, _⟩ := h
    rfl
  · obtain ⟨L, N, sp, s, i, rfl, A1, hi, q⟩ := h
    refine ⟨_, (pss_cons (ps_asg (pe_ix (kIxL K) (kFld K (pv 0) rfl) (pv 1) (fun _ _ => rfl)) (kPgT (n := 3) K (pg_tup rfl (pgs_cons (pg_name (i := 2) sc_span_arc.nd rfl (Or.inl rfl)) (pgs_cons (pg_name (i := 3) sc_span_arc.nd rfl (Or.inl rfl)) (pgs_cons (pg_name (i := 4) sc_span_arc.nd rfl (Or.inl rfl)) pgs_nil))))))
      (pss_cons (ps_if (pt_val (pe_ix (kIxL K) (kFld K (pv 0) rfl) (pv 1) (fun _ _ => rfl))) (pss_one (ps_ret (pe_tup (pa_cons (pv 3) (pa_cons (pv 2) (pa_cons (pe_op op_sub pe_int (pv 4)) (pa_cons pe_str (pa_cons (pv 1) pa_nil)))))))) pss_nil)
      (pss_one (ps_ret (pe_tup (pa_cons (pv 2) (pa_cons (pv 3) (pa_cons (pv 4) (pa_cons pe_str (pa_cons (pv 1) pa_nil)))))))))), ?_⟩
    obtain ⟨t, ht, hv⟩ := A1.i1 (σ := start N_span_arc [.ref L.o, .int (i : Int)]) (te := tVar 0) (ta := tVar 1) (ev_var rfl) T.cl T.a_own_spans hi (ev_var rfl)
    refine c_asgT hv (tg_3 ht) fun H1 e1 => ?_
    refine q_when (b := tkn s i) (et_B ((A1.mono e1).i5 (ev_var rfl) T.cl T.a_taken hi (ev_var rfl))) (fun hb H2 e2 => ?_) fun hb H2 e2 => ?_
    · refine s_retU (eu_tup (ea_cons (ev_var rfl) (ea_cons (ev_var rfl) (ea_cons (ev_op ev_c (ev_var rfl) rv_I0) (ea_cons ev_c (ea_cons (ev_var rfl) ea_nil))))) (by simp)) fun p H3 hp e3 h3 => q _ _ ((e1.trans e2).trans e3) ?_
      unfold spanArc
      rw [if_pos (show s.2.getD i false = true from hb)]
      exact ⟨p, rfl, st_of (by rw [new_of (fresh_back (e1.trans e2) hp)]; exact h3)⟩
    · refine s_retU (eu_tup (ea_cons (ev_var rfl) (ea_cons (ev_var rfl) (ea_cons (ev_var rfl) (ea_cons ev_c (ea_cons (ev_var rfl) ea_nil))))) (by simp)) fun p H3 hp e3 h3 => q _ _ ((e1.trans e2).trans e3) ?_
      unfold spanArc
      rw [if_neg (show ¬ s.2.getD i false = true from fun z => by rw [show s.2.getD i false = false from hb] at z; cases z)]
      exact ⟨p, rfl, st_of (by rw [new_of (fresh_back (e1.trans e2) hp)]; exact h3)⟩
theorem spn_span_arc {C : Addr} {L : La} {N : Nat} {sp : List Spn} {s : Ln} {i : Nat} {H : Hp} (A : LineAt K C L N sp s H) (hi : i < sp.length) : SpN (sp_span_arc K C) [.ref L.o, .int (i : Int)] H (fun G v => rArc K G v (spanArc sp s.2 i)) := fun H1 e Q q _ => ⟨L, N, sp, s, i, rfl, A.mono e, hi, q⟩
/-! ### taken_now -/
def sp_taken_now (K : Frg) (C : Addr) : Sp := fun vs H Q _ => ∃ (L : La) (N : Nat) (sp : List Spn) (s : Ln), vs = [.ref L.o] ∧ LineAt K C L N sp s H ∧ RetN (fun G v => rTL rNat G v (chosen sp.length s)) H Q
theorem ok_taken_now (T : Txt K mg) : FnOk P w K mg base CX0 1 T.m_taken_now.f T.m_taken_now.fd ["self"] (sp_taken_now K T.C) := by
  refine T.m_taken_now.F.ok sc_taken_now (fun vs H Q E h => ?_) (fun cdv A outer s H vs Q E hr h => ?_)
  · obtain ⟨L, N, sp, s, rfl, _⟩ := h
    rfl
  · obtain ⟨L, N, sp, s, rfl, A1, q⟩ := h
    refine ⟨_, (pss_one (ps_ret (pe_lc (own := [("i", 1)]) (g := gName 1) rfl sc_taken_now.nd (pi_range1 rfl T.n_range (pa_cons (pe_callB (kLen K) rfl T.n_len (by decide +kernel) (pa_cons (kFld K (pv 0) rfl) pa_nil)) pa_nil)) (blkOk_by (own := [("i", 1)]) (N := N_taken_now) (sc := defScope S_taken_now) (by decide +kernel)) (fun _ _ _ _ _ => (pg_name (i := 1) sc_taken_now.nd rfl (Or.inl rfl))) (fun _ _ _ _ _ => (pts_one (pt_val (pe_ix (kIxL K) (kFld K (pv 0) rfl) (pv 1) (fun _ _ => rfl))))) (fun _ _ _ _ _ => (pv 1))))), ?_⟩
    have lS := A1.lS
    refine s_retL (el_lcR1 (n := (sp.length : Int)) (fun i => tkn s i) (fun i => .int (i : Int)) (ea_cons (A1.lenS (ev_var rfl) T.cl T.a_own_spans) ea_nil) (by omega) (fun _ => rfl) (fun i H1 e hi => et_B ((A1.mono e).i5 (ev_var rfl) T.cl T.a_taken (by omega) (ev_var rfl))) fun i H1 e hi _ => ev_var rfl) fun p H1 hp e1 h1 => q _ _ e1 ⟨p, _, rfl, by rw [new_of hp]; exact h1, ?_⟩
    have := nat_all2 (H := New H H1) (chosen sp.length s)
    rw [List.map_map] at this
    rw [Int.toNat_natCast]
    exact this
theorem spn_taken_now {C : Addr} {L : La} {N : Nat} {sp : List Spn} {s : Ln} {H : Hp} (A : LineAt K C L N sp s H) : SpN (sp_taken_now K C) [.ref L.o] H (fun G v => rTL rNat G v (chosen sp.length s)) := fun H1 e Q q _ => ⟨L, N, sp, s, rfl, A.mono e, q⟩
/-! ### greatest_over -/
theorem s_retKw {r : List V → List V → Hp → VK → Prop} {te : TE} {d : V} {D : Ends} {σ : L2.St} {H : Hp} {xs : List V} (h : EvL te σ H xs) (k : ∀ p H1, H p = none → Ex H H1 → H1 p = some (.lst xs) → r [.ref p] [d] H1 D.rt) : tRet (tCKw r (tCons te tNil) (tCons (tC d) tNil)) D σ H :=
  h H (Ex.refl H) _ fun p H1 hp e h1 => k p H1 hp e h1
def sp_greatest_over (K : Frg) (C : Addr) : Sp := fun vs H Q _ => ∃ (L : La) (N : Nat) (sp : List Spn) (s : Ln) (k : Nat), vs = [.ref L.o, .int (k : Int)] ∧ LineAt K C L N sp s H ∧ (∀ i, i < sp.length → 0 ≤ (spn sp i).2.2) ∧
  ∀ g : Int, 0 ≤ g → (∀ i, i < sp.length → cov sp i k → (spn sp i).2.2 ≤ g) → RetV (.int g) H Q
theorem spn_of_mem {sp : List Spn} {x : Spn} (h : x ∈ sp) : ∃ i, i < sp.length ∧ spn sp i = x := by
  obtain ⟨i, hi, e⟩ := List.mem_iff_getElem.mp h
  exact ⟨i, hi, by unfold spn; rw [List.getD_eq_getElem?_getD, List.getElem?_eq_getElem hi]; exact e⟩
theorem spn_mem {sp : List Spn} {i : Nat} (h : i < sp.length) : spn sp i ∈ sp := by
  unfold spn
  rw [List.getD_eq_getElem?_getD, List.getElem?_eq_getElem h]
  exact List.getElem_mem h
theorem ok_greatest_over (T : Txt K mg) : FnOk P w K mg base CX0 1 T.m_greatest_over.f T.m_greatest_over.fd ["self", "k"] (sp_greatest_over K T.C) := by
  refine T.m_greatest_over.F.ok sc_greatest_over (fun vs H Q E h => ?_) (fun cdv A outer s H vs Q E hr h => ?_)
  · obtain ⟨L, N, sp, s, k, rfl, _⟩ := h
    rfl
  · obtain ⟨L, N, sp, s, k, rfl, A1, pos, q⟩ := h
    refine ⟨_, (pss_one (ps_ret (pe_callBK (kMaxDf K rfl hr.units) rfl T.n_max (by decide +kernel) (pa_cons (pe_lc (own := [("begin", 2), ("end", 3), ("worth", 4)]) (g := gTup K 3 (gCons (gName 2) (gCons (gName 3) (gCons (gName 4) gNil)))) rfl sc_greatest_over.nd (kPiL K (kFld K (pv 0) rfl)) (blkOk_by (own := [("begin", 2), ("end", 3), ("worth", 4)]) (N := N_greatest_over) (sc := defScope S_greatest_over) (by decide +kernel)) (fun _ _ _ _ _ => (kPgT (n := 3) K (pg_tup rfl (pgs_cons (pg_name (i := 2) sc_greatest_over.nd rfl (Or.inl rfl)) (pgs_cons (pg_name (i := 3) sc_greatest_over.nd rfl (Or.inl rfl)) (pgs_cons (pg_name (i := 4) sc_greatest_over.nd rfl (Or.inl rfl)) pgs_nil)))))) (fun _ _ _ _ _ => (pts_one (pt_chain op_le op_lt (pv 2) (pv 1) (pv 3)))) (fun _ _ _ _ _ => (pv 4))) pa_nil) (pk_cons pe_int pk_nil)))), ?_⟩
    have lS := A1.lS
    obtain ⟨vs, q1, q2⟩ := A1.h1
    have hx : rLst K (rSpn K) H (.ref L.l1) sp := ⟨L.l1, vs, rfl, sq_of q1, q2.mono fun _ _ => Mono.mono new_ex⟩
    have key := el_lcU (K := K) (R := rSpn K) (H := H) (σ := start N_greatest_over [.ref L.o, .int (k : Int)]) (vs := [2, 3, 4]) (tl := tFld K (tVar 0) "own_spans") (t := tTest (tChain (rI0 fun i j => .bl (decide (i ≤ j))) (rI0 fun i j => .bl (decide (i < j))) (tVar 2) (tVar 1) (tVar 3))) (te := tVar 4) (g := gTup K 3 (gCons (gName 2) (gCons (gName 3) (gCons (gName 4) gNil)))) (fun x : Spn => decide ((x.1 : Int) ≤ k) && decide ((k : Int) < x.2.1)) (fun x => .int x.2.2) (A1.f1 (ev_var rfl) T.cl T.a_own_spans) hx (by omega) (fun v a ha ⟨t, e0, ht⟩ => by
      subst e0
      refine ⟨_, tg_3 ht, rfl, fun H1 e => et_test (ev_chain (ev_var rfl) (ev_var rfl) rv_I0 (ev_var rfl) rv_I0), fun H1 e _ => ev_var rfl⟩)
    refine s_retKw key fun p H1 hp e1 h1 => ?_
    have h1' : H1 p = some (.lst (((sp.filter fun x : Spn => decide ((x.1 : Int) ≤ k) && decide ((k : Int) < x.2.1)).map fun x => x.2.2).map V.int)) := by rw [h1, List.map_map]; rfl
    have mem : ∀ y, y ∈ ((sp.filter fun x : Spn => decide ((x.1 : Int) ≤ k) && decide ((k : Int) < x.2.1)).map fun x => x.2.2) ↔ ∃ i, i < sp.length ∧ cov sp i k ∧ (spn sp i).2.2 = y := by
      intro y
      rw [List.mem_map]
      constructor
      · rintro ⟨x, hx, rfl⟩
        obtain ⟨hx1, hx2⟩ := List.mem_filter.mp hx
        obtain ⟨i, hi, rfl⟩ := spn_of_mem hx1
        rw [Bool.and_eq_true, decide_eq_true_iff, decide_eq_true_iff] at hx2
        exact ⟨i, hi, ⟨by omega, by omega⟩, rfl⟩
      · rintro ⟨i, hi, ⟨c1, c2⟩, rfl⟩
        refine ⟨spn sp i, List.mem_filter.mpr ⟨spn_mem hi, ?_⟩, rfl⟩
        rw [Bool.and_eq_true, decide_eq_true_iff, decide_eq_true_iff]
        exact ⟨by omega, by omega⟩
    have len : ((sp.filter fun x : Spn => decide ((x.1 : Int) ≤ k) && decide ((k : Int) < x.2.1)).map fun x => x.2.2).length ≤ 1000 := by
      rw [List.length_map]
      exact Nat.le_trans (List.length_filter_le _ _) lS
    refine ⟨p, _, 0, rfl, rfl, sq_of h1', len, fun h0 => ?_, fun m hm hmax => ?_⟩
    · refine q 0 (Int.le_refl _) (fun i hi hc => ?_) H1 e1
      have := (mem (spn sp i).2.2).mpr ⟨i, hi, hc, rfl⟩
      rw [h0] at this
      cases this
    · obtain ⟨i, hi, hc, rfl⟩ := (mem m).mp hm
      exact q _ (pos i hi) (fun j hj hcj => hmax _ ((mem _).mpr ⟨j, hj, hcj, rfl⟩)) H1 e1
end
end BW
/-! The class: its making, its arcs, one step along. -/
namespace BW
open PySem L2 Evl
local macro_rules | `(tactic| walk_at "at") => `(tactic| first | rfl | assumption | exact atI_nat (by assumption))
local macro_rules | `(tactic| walk_at "rv") => `(tactic| first | exact rv_I0 | exact rv_eq rfl | exact rv_ne rfl | exact rv_isN | exact rv_notN | exact rv_notB | exact rv_ixL (by assumption) (by walk_at "at") | exact rv_ixT (by assumption) (by walk_at "at") | exact rv_I (by omega))
local macro_rules | `(tactic| walk_at "ev") => `(tactic| first | exact ev_c | exact ev_var rfl | assumption | (apply ev_chain; walk_at "ev"; walk_at "ev"; walk_at "rv"; walk_at "ev"; walk_at "rv") | (apply ev_op; walk_at "ev"; walk_at "ev"; walk_at "rv"))
section
variable {P : Program} {w : World} {K : Frg} {mg : Str → Option Value} {base : Heap}
section
variable {σ : L2.St} {H : Hp} {te ta : TE} {D : Ends} {tz : TS} {p C dx : Addr} {fs : List (Str × V)} {f : Str}
theorem c_fldL {xs : List V} (hp : H p = some (.ins C dx fs)) (h : EvL te σ H xs) (ho : Ev ta σ H (.ref p)) (c : Cls K C) (n : NoAttr K C f) (few : fs.length < 1000) (k : ∀ l H1, H l = none → l ≠ p → Ex H H1 → H1 l = some (.lst xs) → tz D σ (upd H1 p (.ins C dx (putF f (.ref l) fs)))) : tSeq (sFld K ta te f) tz D σ H :=
  h H (Ex.refl H) _ fun l H1 hl e h1 => ho H1 e _ fun H2 e2 => ⟨p, C, dx, fs, rfl, (e.trans e2) _ _ hp, c, n, few, k l H2 hl (fun z => by rw [z, hp] at hl; cases hl) (e.trans e2) (e2 _ _ h1)⟩
theorem s_fld {v : V} (hp : H p = some (.ins C dx fs)) (h : Ev te σ H v) (ho : Ev ta σ H (.ref p)) (c : Cls K C) (n : NoAttr K C f) (few : fs.length < 1000) (k : ∀ H1, Ex H H1 → D.nx σ (upd H1 p (.ins C dx (putF f v fs)))) : sFld K ta te f D σ H :=
  h H (Ex.refl H) _ fun H1 e => ho H1 e _ fun H2 e2 => ⟨p, C, dx, fs, rfl, (e.trans e2) _ _ hp, c, n, few, k H2 (e.trans e2)⟩
end
theorem few_put {f : Str} {v : V} {fs : List (Str × V)} {k : Nat} (h : fs.length + (k + 1) < 1000) : (putF f v fs).length + k < 1000 := by
  have := length_putF f v fs
  omega
def one (p : Addr) : Hp := upd (fun _ => none) p (.lst [])
theorem one_ne {p b : Addr} (h : b ≠ p) : one p b = none := by unfold one; rw [upd_ne h]
theorem one_mut {p : Addr} {H : Hp} {o : HO} : New (one p) (upd H p o) = New (one p) H := new_mut (u := .lst []) (by unfold one; exact upd_same)
theorem one_at {p b : Addr} {o : HO} {H H' : Hp} (e : Ex (New (one p) H) (New (one p) H')) (hb : b ≠ p) (h : H b = some o) : H' b = some o := new_ex _ _ (e b o (by rw [new_of (one_ne hb)]; exact h))
theorem one_back {p b : Addr} {H H' : Hp} (e : Ex (New (one p) H) (New (one p) H')) (hb : b ≠ p) (h : H' b = none) : H b = none := by
  cases q : H b with
  | none => rfl
  | some o => rw [one_at e hb q] at h; cases h
theorem filter_true {α : Type} (l : List α) : l.filter (fun _ => true) = l := List.filter_eq_self.mpr fun _ _ => rfl
theorem map_const {α : Type} (v : V) (l : List α) : l.map (fun _ => v) = List.replicate l.length v := by
  induction l with
  | nil => rfl
  | cons a l ih => rw [List.map_cons, ih]; rfl
/-! ### __init__ -/
def sp_init (K : Frg) : Sp := fun vs H Q _ => ∃ (p C dx : Addr) (x y : V) (sp : List Spn) (ms : List Int), vs = [.ref p, x, y] ∧ H p = some (.ins C dx []) ∧ Cls K C ∧ (NoAttr K C "own_spans" ∧ NoAttr K C "own_must" ∧ NoAttr K C "filled" ∧ NoAttr K C "idle" ∧ NoAttr K C "taken" ∧ NoAttr K C "great") ∧
  rLst K (rSpn K) (New (one p) H) x sp ∧ rLst K rInt (New (one p) H) y ms ∧ (∀ m ∈ ms, m = 0) ∧ sp.length ≤ 1000 ∧ ms.length ≤ 1000 ∧
  ∀ (L : La) (H2 : Hp), L.o = p → LineAt K C L ms.length sp (List.replicate ms.length 0, List.replicate sp.length false) H2 → H L.l4 = none → H L.l5 = none → Ex (New (one p) H) (New (one p) H2) → Q .non H2
theorem ok_init (T : Txt K mg) : FnOk P w K mg base CX0 1 T.m_init.f T.m_init.fd ["self", "spans", "must"] (sp_init K) := by
  refine T.m_init.F.ok sc_init (fun vs H Q E h => ?_) (fun cdv A outer s H vs Q E hr h => ?_)
  · obtain ⟨p, C, dx, x, y, sp, ms, rfl, _⟩ := h
    rfl
  · obtain ⟨p, C, dx, x, y, sp, ms, rfl, hp, cl, ⟨a1, a2, a3, a4, a5, a6⟩, hx, hy, hz, fS, fM, q⟩ := h
    refine ⟨_, (pss_cons (kPsF K (ps_fld (pv 0) (pe_callTy (kListOf K) rfl T.n_list (by decide +kernel) (pa_cons (pv 1) pa_nil)) rfl))
      (pss_cons (kPsF K (ps_fld (pv 0) (pe_callTy (kListOf K) rfl T.n_list (by decide +kernel) (pa_cons (pv 2) pa_nil)) rfl))
      (pss_cons (kPsF K (ps_fld (pv 0) (pe_lc (own := [("piece", 3)]) (g := gName 3) (tt := tYes) rfl sc_init.nd (kPiL K (pv 2)) (blkOk_by (own := [("piece", 3)]) (N := N_init) (sc := defScope S_init) (by decide +kernel)) (fun _ _ _ _ _ => (pg_name (i := 3) sc_init.nd rfl (Or.inl rfl))) (fun _ _ _ _ _ => pts_nil) (fun _ _ _ _ _ => pe_int)) rfl))
      (pss_cons (kPsF K (ps_fld (pv 0) (pe_lc (own := [("piece", 3)]) (g := gName 3) (tt := tYes) rfl sc_init.nd (kPiL K (pv 2)) (blkOk_by (own := [("piece", 3)]) (N := N_init) (sc := defScope S_init) (by decide +kernel)) (fun _ _ _ _ _ => (pg_name (i := 3) sc_init.nd rfl (Or.inl rfl))) (fun _ _ _ _ _ => pts_nil) (fun _ _ _ _ _ => pe_int)) rfl))
      (pss_cons (kPsF K (ps_fld (pv 0) (pe_lc (own := [("span", 4)]) (g := gName 4) (tt := tYes) rfl sc_init.nd (kPiL K (pv 1)) (blkOk_by (own := [("span", 4)]) (N := N_init) (sc := defScope S_init) (by decide +kernel)) (fun _ _ _ _ _ => (pg_name (i := 4) sc_init.nd rfl (Or.inl rfl))) (fun _ _ _ _ _ => pts_nil) (fun _ _ _ _ _ => pe_bl)) rfl))
      (pss_one (kPsF K (ps_fld (pv 0) (pe_op op_add pe_int (pe_callB (kSum K rfl) rfl T.n_sum (by decide +kernel) (pa_cons (pe_lc (own := [("begin", 5), ("end", 6), ("worth", 7)]) (g := gTup K 3 (gCons (gName 5) (gCons (gName 6) (gCons (gName 7) gNil)))) (tt := tYes) rfl sc_init.nd (kPiL K (pv 1)) (blkOk_by (own := [("begin", 5), ("end", 6), ("worth", 7)]) (N := N_init) (sc := defScope S_init) (by decide +kernel)) (fun _ _ _ _ _ => (kPgT (n := 3) K (pg_tup rfl (pgs_cons (pg_name (i := 5) sc_init.nd rfl (Or.inl rfl)) (pgs_cons (pg_name (i := 6) sc_init.nd rfl (Or.inl rfl)) (pgs_cons (pg_name (i := 7) sc_init.nd rfl (Or.inl rfl)) pgs_nil)))))) (fun _ _ _ _ _ => pts_nil) (fun _ _ _ _ _ => (pv 7))) pa_nil))) rfl)))))))), ?_⟩
    obtain ⟨lx, wx, rfl, sx, Ax⟩ := id hx
    obtain ⟨ly, rfl, sy⟩ := rLst_int.mp hy
    -- own_spans
    refine c_fldL hp (el_list (ev_var rfl) (ex_l new_ex sx)) (ev_var rfl) cl a1 (by simp) fun l1 H1 h1 n1 e1 g1 => ?_
    have E1 : Ex (New (one p) H) (New (one p) (upd H1 p (.ins C dx (putF "own_spans" (.ref l1) [])))) := by rw [one_mut]; exact new_mono e1
    have p1 : upd H1 p (.ins C dx (putF "own_spans" (.ref l1) [])) p = some (.ins C dx (putF "own_spans" (.ref l1) [])) := upd_same
    have g1' : upd H1 p (.ins C dx (putF "own_spans" (.ref l1) [])) l1 = some (.lst wx) := by rw [upd_ne n1]; exact g1
    generalize upd H1 p (.ins C dx (putF "own_spans" (.ref l1) [])) = G1 at E1 p1 g1' ⊢
    -- own_must
    refine c_fldL p1 (el_list (ev_var rfl) (ex_l new_ex (ex_l E1 sy))) (ev_var rfl) cl a2 (few_put (k := 0) (by simp)) fun l2 H2 h2 n2 e2 g2 => ?_
    have E2 : Ex (New (one p) G1) (New (one p) (upd H2 p (.ins C dx (putF "own_must" (.ref l2) (putF "own_spans" (.ref l1) []))))) := by rw [one_mut]; exact new_mono e2
    have p2 : upd H2 p (.ins C dx (putF "own_must" (.ref l2) (putF "own_spans" (.ref l1) []))) p = some (.ins C dx (putF "own_must" (.ref l2) (putF "own_spans" (.ref l1) []))) := upd_same
    have g2' : upd H2 p (.ins C dx (putF "own_must" (.ref l2) (putF "own_spans" (.ref l1) []))) l2 = some (.lst (ms.map V.int)) := by rw [upd_ne n2]; exact g2
    generalize upd H2 p (.ins C dx (putF "own_must" (.ref l2) (putF "own_spans" (.ref l1) []))) = G2 at E2 p2 g2' ⊢
    have E02 := E1.trans E2
    -- filled
    have zer : ∀ {G : Hp}, Ex (New (one p) H) (New (one p) G) → EvL (tLc (iList K (tVar 2)) (gName 3) tYes (tC (.int 0)) [3]) (start N_init [.ref p, .ref lx, .ref ly]) G (List.replicate ms.length (V.int 0)) := fun {G} eG => by
      have key := el_lcU (K := K) (R := rInt) (H := G) (σ := start N_init [.ref p, .ref lx, .ref ly]) (vs := [3]) (tl := tVar 2) (t := tYes) (te := tC (.int 0)) (g := gName 3) (fun _ : Int => true) (fun _ => .int 0) (ev_var rfl) (rLst_int.mpr ⟨ly, rfl, ex_l new_ex (ex_l eG sy)⟩) (by omega) (fun v a ha hv => ⟨_, tg_name, rfl, fun H1 _ => et_yes, fun H1 _ _ => ev_c⟩)
      rw [filter_true, map_const] at key
      exact key
    refine c_fldL p2 (zer E02) (ev_var rfl) cl a3 (few_put (k := 0) (few_put (k := 1) (by simp))) fun l3 H3 h3 n3 e3 g3 => ?_
    have E3 : Ex (New (one p) G2) (New (one p) (upd H3 p (.ins C dx (putF "filled" (.ref l3) (putF "own_must" (.ref l2) (putF "own_spans" (.ref l1) [])))))) := by rw [one_mut]; exact new_mono e3
    have p3 : upd H3 p (.ins C dx (putF "filled" (.ref l3) (putF "own_must" (.ref l2) (putF "own_spans" (.ref l1) [])))) p = some (.ins C dx (putF "filled" (.ref l3) (putF "own_must" (.ref l2) (putF "own_spans" (.ref l1) [])))) := upd_same
    have g3' : upd H3 p (.ins C dx (putF "filled" (.ref l3) (putF "own_must" (.ref l2) (putF "own_spans" (.ref l1) [])))) l3 = some (.lst (List.replicate ms.length (V.int 0))) := by rw [upd_ne n3]; exact g3
    generalize upd H3 p (.ins C dx (putF "filled" (.ref l3) (putF "own_must" (.ref l2) (putF "own_spans" (.ref l1) [])))) = G3 at E3 p3 g3' ⊢
    have E03 := E02.trans E3
    -- idle
    refine c_fldL p3 (zer E03) (ev_var rfl) cl a4 (few_put (k := 0) (few_put (k := 1) (few_put (k := 2) (by simp)))) fun l4 H4 h4 n4 e4 g4 => ?_
    have E4 : Ex (New (one p) G3) (New (one p) (upd H4 p (.ins C dx (putF "idle" (.ref l4) (putF "filled" (.ref l3) (putF "own_must" (.ref l2) (putF "own_spans" (.ref l1) []))))))) := by rw [one_mut]; exact new_mono e4
    have p4 : upd H4 p (.ins C dx (putF "idle" (.ref l4) (putF "filled" (.ref l3) (putF "own_must" (.ref l2) (putF "own_spans" (.ref l1) []))))) p = some (.ins C dx (putF "idle" (.ref l4) (putF "filled" (.ref l3) (putF "own_must" (.ref l2) (putF "own_spans" (.ref l1) []))))) := upd_same
    have g4' : upd H4 p (.ins C dx (putF "idle" (.ref l4) (putF "filled" (.ref l3) (putF "own_must" (.ref l2) (putF "own_spans" (.ref l1) []))))) l4 = some (.lst (List.replicate ms.length (V.int 0))) := by rw [upd_ne n4]; exact g4
    generalize upd H4 p (.ins C dx (putF "idle" (.ref l4) (putF "filled" (.ref l3) (putF "own_must" (.ref l2) (putF "own_spans" (.ref l1) []))))) = G4 at E4 p4 g4' ⊢
    have E04 := E03.trans E4
    -- taken
    have hx4 : rLst K (rSpn K) G4 (.ref lx) sp := Mono.mono (E04.trans new_ex) hx
    have nos := el_lcU (K := K) (R := rSpn K) (H := G4) (σ := start N_init [.ref p, .ref lx, .ref ly]) (vs := [4]) (tl := tVar 1) (t := tYes) (te := tC (.bl false)) (g := gName 4) (fun _ : Spn => true) (fun _ => .bl false) (ev_var rfl) hx4 (by omega) (fun v a ha hv => ⟨_, tg_name, rfl, fun H1 _ => et_yes, fun H1 _ _ => ev_c⟩)
    rw [filter_true, map_const] at nos
    refine c_fldL p4 nos (ev_var rfl) cl a5 (few_put (k := 0) (few_put (k := 1) (few_put (k := 2) (few_put (k := 3) (by simp))))) fun l5 H5 h5 n5 e5 g5 => ?_
    have E5 : Ex (New (one p) G4) (New (one p) (upd H5 p (.ins C dx (putF "taken" (.ref l5) (putF "idle" (.ref l4) (putF "filled" (.ref l3) (putF "own_must" (.ref l2) (putF "own_spans" (.ref l1) [])))))))) := by rw [one_mut]; exact new_mono e5
    have p5 : upd H5 p (.ins C dx (putF "taken" (.ref l5) (putF "idle" (.ref l4) (putF "filled" (.ref l3) (putF "own_must" (.ref l2) (putF "own_spans" (.ref l1) [])))))) p = some (.ins C dx (putF "taken" (.ref l5) (putF "idle" (.ref l4) (putF "filled" (.ref l3) (putF "own_must" (.ref l2) (putF "own_spans" (.ref l1) [])))))) := upd_same
    have g5' : upd H5 p (.ins C dx (putF "taken" (.ref l5) (putF "idle" (.ref l4) (putF "filled" (.ref l3) (putF "own_must" (.ref l2) (putF "own_spans" (.ref l1) [])))))) l5 = some (.lst (List.replicate sp.length (V.bl false))) := by rw [upd_ne n5]; exact g5
    generalize upd H5 p (.ins C dx (putF "taken" (.ref l5) (putF "idle" (.ref l4) (putF "filled" (.ref l3) (putF "own_must" (.ref l2) (putF "own_spans" (.ref l1) [])))))) = G5 at E5 p5 g5' ⊢
    have E05 := E04.trans E5
    -- great
    have ws := el_lcU (K := K) (R := rSpn K) (H := G5) (σ := start N_init [.ref p, .ref lx, .ref ly]) (vs := [5, 6, 7]) (tl := tVar 1) (t := tYes) (te := tVar 7) (g := gTup K 3 (gCons (gName 5) (gCons (gName 6) (gCons (gName 7) gNil)))) (fun _ : Spn => true) (fun x => .int x.2.2) (ev_var rfl) (Mono.mono (E05.trans new_ex) hx) (by omega) (fun v a ha ⟨t, e0, ht⟩ => by
      subst e0
      exact ⟨_, tg_3 ht, rfl, fun H1 _ => et_yes, fun H1 _ _ => ev_var rfl⟩)
    rw [filter_true] at ws
    have sm : Ev (tCB (rSum K) (tCons (tLc (iList K (tVar 1)) (gTup K 3 (gCons (gName 5) (gCons (gName 6) (gCons (gName 7) gNil)))) tYes (tVar 7) [5, 6, 7]) tNil)) (start N_init [.ref p, .ref lx, .ref ly]) G5 (.int (sp.map (·.2.2)).sum) := evl_cb ws fun r H1 hr => rc_sum (sq_of (by rw [hr, List.map_map]; rfl))
    refine s_fld p5 (ev_op ev_c sm rv_I0) (ev_var rfl) cl a6 (few_put (k := 0) (few_put (k := 1) (few_put (k := 2) (few_put (k := 3) (few_put (k := 4) (by simp)))))) fun H6 e6 => ?_
    have E6 : Ex (New (one p) G5) (New (one p) (upd H6 p (.ins C dx (putF "great" (.int (1 + (sp.map (·.2.2)).sum)) (putF "taken" (.ref l5) (putF "idle" (.ref l4) (putF "filled" (.ref l3) (putF "own_must" (.ref l2) (putF "own_spans" (.ref l1) []))))))))) := by rw [one_mut]; exact new_mono e6
    have p6 : upd H6 p (.ins C dx (putF "great" (.int (1 + (sp.map (·.2.2)).sum)) (putF "taken" (.ref l5) (putF "idle" (.ref l4) (putF "filled" (.ref l3) (putF "own_must" (.ref l2) (putF "own_spans" (.ref l1) []))))))) p = some (.ins C dx (putF "great" (.int (1 + (sp.map (·.2.2)).sum)) (putF "taken" (.ref l5) (putF "idle" (.ref l4) (putF "filled" (.ref l3) (putF "own_must" (.ref l2) (putF "own_spans" (.ref l1) []))))))) := upd_same
    generalize upd H6 p (.ins C dx (putF "great" (.int (1 + (sp.map (·.2.2)).sum)) (putF "taken" (.ref l5) (putF "idle" (.ref l4) (putF "filled" (.ref l3) (putF "own_must" (.ref l2) (putF "own_spans" (.ref l1) []))))))) = G6 at E6 p6 ⊢
    have z4 : H l4 = none := one_back E03 n4 h4
    have z5 : H l5 = none := one_back E04 n5 h5
    have k4 : ∀ {b : Addr} {o : HO}, b ≠ p → G3 b = some o → b ≠ l4 := fun _ hb z => by rw [z, h4] at hb; cases hb
    have k5 : ∀ {b : Addr} {o : HO}, b ≠ p → G4 b = some o → b ≠ l5 := fun _ hb z => by rw [z, h5] at hb; cases hb
    have E46 := (E4.trans E5).trans E6
    have w1 : G3 l1 = some (.lst wx) := one_at (E2.trans E3) n1 g1'
    have w2 : G3 l2 = some (.lst (ms.map V.int)) := one_at E3 n2 g2'
    have mz : ms.map V.int = List.replicate ms.length (V.int 0) := by
      rw [← map_const (V.int 0) ms]
      exact List.map_congr_left fun m hm => by rw [hz m hm]
    rw [mz] at w2
    refine q ⟨p, l1, l2, l3, l4, l5, dx, 1 + (sp.map (·.2.2)).sum⟩ G6 rfl ⟨p6, ⟨wx, one_at E46 n1 w1, Ax.mono fun v a hv => Mono.mono ?_ hv⟩, one_at E46 n2 w2, one_at E46 n3 g3', ?_, ?_, List.length_replicate, List.length_replicate, fM, fS, k5 n4 g4', ⟨k4 n1 w1, k5 n1 (one_at E4 n1 w1)⟩, ⟨k4 n2 w2, k5 n2 (one_at E4 n2 w2)⟩, k4 n3 g3', k5 n3 (one_at E4 n3 g3')⟩ z4 z5 ((E05.trans E6))
    · intro b o hb
      have hb1 : H b = some o := new_ex _ _ hb
      have hbp : b ≠ p := fun z => by
        rw [z] at hb
        unfold New one at hb
        rw [upd_same] at hb
        cases hb
      rw [new_of (La.two_none (fun z => by rw [show b = l4 from z, z4] at hb1; cases hb1) (fun z => by rw [show b = l5 from z, z5] at hb1; cases hb1))]
      exact one_at (E05.trans E6) hbp hb1
    · rw [List.map_replicate]
      exact one_at (E5.trans E6) n4 g4'
    · rw [List.map_replicate]
      exact one_at E6 n5 g5'
/-! ### arcs_left -/
section
variable {α : Type} {S : Rep α} [Mono S] {σ : L2.St} {H B : Hp} {ta tb te : TE} {R : Hp → V → Prop} {D : Ends}
theorem s_ext {l : Addr} {xs : List V} (hl : H l = some (.lst xs)) (ha : Ev ta σ H (.ref l)) (h : EvB te σ H B R) (k : ∀ v H1, Ex H H1 → R (New B H1) v → ∃ b zs, v = .ref b ∧ H1 b = some (.lst zs) ∧ xs.length + zs.length ≤ 100000 ∧ D.nx σ (upd H1 l (.lst (xs ++ zs)))) :
    tDrop (tBM K "list" rExtend ta (tCons te tNil)) D σ H := ha H (Ex.refl H) _ fun H1 e1 =>
  ⟨Or.inl ⟨rfl, xs, sq_of (e1 l _ hl)⟩, h H1 e1 _ fun v H2 e2 r => by
    obtain ⟨b, zs, h1, h2, h3, h4⟩ := k v H2 (e1.trans e2) r
    exact ⟨l, b, xs, zs, rfl, by rw [h1], e2 l _ (e1 l _ hl), h2, sz_of h3, h4⟩⟩
theorem evb_cat {p : Addr} {xs : List V} {as bs : List α} (hB : Sub B H) (ha : Ev ta σ H (.ref p)) (hp : H p = some (.lst xs)) (hA : All2 (S (New B H)) xs as) (hb : EvB tb σ H B (fun G v => rTL S G v bs)) (hl : as.length + bs.length ≤ 100000) : EvB (tOp rCat ta tb) σ H B (fun G v => rTL S G v (as ++ bs)) := fun H1 e Q q =>
  ha H1 e _ fun H2 e2 => hb H2 (e.trans e2) _ fun v H3 e3 ⟨r, ys, hr, h3, hY⟩ => by
    subst hr
    refine ⟨p, r, xs, ys, rfl, rfl, ((e.trans e2).trans e3) _ _ hp, new_ex _ _ h3, sz_of ?_, fun d hd => q _ _ ((e2.trans e3).trans (Ex.new hd)) ?_⟩
    · have a := hA.1
      have b := hY.1
      omega
    · have eH := (e.trans e2).trans e3
      refine ⟨d, xs ++ ys, rfl, by rw [new_of ((hB.ex eH) _ hd), upd_same], All2.app (hA.mono fun _ _ => Mono.mono (new_mono (eH.trans (Ex.new hd)))) (hY.mono fun _ _ => Mono.mono (new_mono (Ex.new hd)))⟩
end
theorem pieceArcs_len (idle : List Int) (k : Nat) : (pieceArcs idle k).length ≤ 2 := by
  unfold pieceArcs
  split <;> simp
def sp_arcs_left (K : Frg) (C : Addr) : Sp := fun vs H Q _ => ∃ (L : La) (N : Nat) (sp : List Spn) (s : Ln), vs = [.ref L.o] ∧ LineAt K C L N sp s H ∧ RetN (fun G v => rTL (rArc K) G v (arcsOf sp s)) H Q
theorem ok_arcs_left (T : Txt K mg) : FnOk P w K mg base CX0 2 T.m_arcs_left.f T.m_arcs_left.fd ["self"] (sp_arcs_left K T.C) := by
  refine T.m_arcs_left.F.ok sc_arcs_left (fun vs H Q E h => ?_) (fun cdv A outer s H vs Q E hr h => ?_)
  · obtain ⟨L, N, sp, s, rfl, _⟩ := h
    rfl
  · obtain ⟨L, N, sp, s, rfl, A1, q⟩ := h
    refine ⟨_, (pss_cons (ps_set (i := 1) sc_arcs_left.nd rfl (Or.inl rfl) (pe_lst pa_nil))
      (pss_cons (ps_for PassesOwn.never rfl (pi_range1 rfl T.n_range (pa_cons (pe_callB (kLen K) rfl T.n_len (by decide +kernel) (pa_cons (kFld K (pv 0) rfl) pa_nil)) pa_nil)) (pg_name (i := 2) sc_arcs_left.nd rfl (Or.inl rfl))
      (pss_one (ps_expr (kBM K (pe_bm PySem.F.plainAttrs_list PySem.F.slot_list_extend PySem.F.type_list_extend mt_extend (pv 1) (pa_cons (pe_meth (pv 0) T.cl T.m_piece_arcs.M (ok_piece_arcs T) (hr.mono (by decide)) T.m_piece_arcs.b .nil pass0 (pa_cons (pv 2) pa_nil)) pa_nil))))))
      (pss_one (ps_ret (pe_op op_cat (pv 1) (pe_lc (own := [("i", 3)]) (g := gName 3) (tt := tYes) rfl sc_arcs_left.nd (pi_range1 rfl T.n_range (pa_cons (pe_callB (kLen K) rfl T.n_len (by decide +kernel) (pa_cons (kFld K (pv 0) rfl) pa_nil)) pa_nil)) (blkOk_by (own := [("i", 3)]) (N := N_arcs_left) (sc := defScope S_arcs_left) (by decide +kernel)) (fun _ _ _ _ _ => (pg_name (i := 3) sc_arcs_left.nd rfl (Or.inl rfl))) (fun _ _ _ _ _ => pts_nil) (fun _ _ _ _ _ => (pe_meth (pv 0) T.cl T.m_span_arc.M (ok_span_arc T) (hr.mono (by decide)) T.m_span_arc.b .nil pass0 (pa_cons (pv 3) pa_nil))))))))), ?_⟩
    have lN := A1.lN
    have lS := A1.lS
    refine q_asgL (el_lst ea_nil (by simp)) fun p H1 hp e1 h1 => ?_
    have A2 := A1.mono e1
    refine q_forR1 (n := (N : Int)) (ea_cons (A2.lenN (ev_var rfl) T.cl T.a_own_must) ea_nil) (by omega) (fun i σ' H' => ∃ v2, σ' = [some (.ref L.o), some (.ref p), v2, none] ∧ Ex H H' ∧ ∃ vs, H' p = some (.lst vs) ∧ vs.length ≤ i + i ∧ All2 (rArc K (New (upd H p (.lst [])) H')) vs (((List.range i).map (pieceArcs s.1)).flatten))
      (fun H2 e2 => ⟨none, rfl, e1.trans e2, [], e2 _ _ h1, Nat.zero_le _, All2.nil⟩) ?_ ?_
    · rintro i σ' H' hi ⟨v2, rfl, eH, vs, hv, hl, hA⟩
      have hi2 : i < N := by omega
      have A3 := A1.mono eH
      have sB : Sub (upd H p (.lst [])) H' := Sub.upd (Sub.of eH) hv
      refine s_ext hv (ev_var rfl) (evb_meth (S := rTL (rArc K)) sB (ev_var rfl) A3.ob rfl (ea_cons (ev_var rfl) ea_nil) (spn_piece_arcs A3 hi2)) fun v H2 e2 ⟨b, zs, e0, hb, hZ⟩ => ?_
      have hzl := hZ.1
      have := pieceArcs_len s.1 i
      refine ⟨b, zs, e0, new_ex _ _ hb, by omega, _, rfl, Ex.mut (eH.trans e2) hp, vs ++ zs, upd_same, by rw [List.length_append]; omega, ?_⟩
      have e5 : New (upd H p (.lst [])) (upd H2 p (.lst (vs ++ zs))) = New (upd H p (.lst [])) H2 := new_mut upd_same
      rw [e5, List.range_succ, List.map_append, List.flatten_append]
      refine All2.app (hA.mono fun _ _ => Mono.mono (new_mono e2)) ?_
      have e6 : (List.map (pieceArcs s.1) [i]).flatten = pieceArcs s.1 i := by simp
      rw [e6]
      exact hZ
    · rintro σ' H' ⟨v2, rfl, eH, vs, hv, hl, hA⟩
      rw [Int.toNat_natCast] at hl hA
      have A3 := A1.mono eH
      have hA' : All2 (rArc K (New H H')) vs (((List.range N).map (pieceArcs s.1)).flatten) := hA.mono fun _ _ => Mono.mono (new_base fun b hb => by
        by_cases eb : b = p
        · rw [eb]; exact hp
        · rw [upd_ne eb] at hb; exact hb)
      have key := evb_lcR (S := rArc K) (σ := [some (.ref L.o), some (.ref p), v2, none]) (H := H') (B := H) (ta := tCons (tCB (rLenS K) (tCons (tFld K (tVar 0) "own_spans") tNil)) tNil) (j := 3) (vs := [3]) (n := sp.length) (t := tYes) (te := tMeth T.C "span_arc" (sp_span_arc K T.C) [] E0 (tVar 0) (tCons (tVar 3) tNil))
        (fun i => some (spanArc sp s.2 i)) (Sub.of eH) (ea_cons (A3.lenS (ev_var rfl) T.cl T.a_own_spans) ea_nil) (by omega) (fun _ => rfl) (fun i H1 _ _ => et_yes) (fun i H2 B1 y e2 sB hi hy => by
          cases hy
          exact evb_meth (S := rArc K) sB (ev_var rfl) (A3.mono e2).ob rfl (ea_cons (ev_var rfl) ea_nil) (spn_span_arc (A3.mono e2) hi))
      rw [filterMap_some] at key
      have hl2 : (((List.range N).map (pieceArcs s.1)).flatten).length ≤ N + N := by rw [← hA'.1]; exact hl
      refine b_ret (evb_cat (S := rArc K) (Sub.of eH) (ev_var rfl) hv hA' key (by rw [List.length_map, List.length_range]; omega)) fun v H2 e2 r => q v H2 (eH.trans e2) ?_
      unfold arcsOf
      rw [A1.li]
      exact r
theorem spn_arcs_left {C : Addr} {L : La} {N : Nat} {sp : List Spn} {s : Ln} {H : Hp} (A : LineAt K C L N sp s H) : SpN (sp_arcs_left K C) [.ref L.o] H (fun G v => rTL (rArc K) G v (arcsOf sp s)) := fun H1 e Q q _ => ⟨L, N, sp, s, rfl, A.mono e, q⟩
/-! ### go_along -/
def sp_go_along (K : Frg) (C : Addr) : Sp := fun vs H Q _ => ∃ (L : La) (N : Nat) (sp : List Spn) (s : Ln) (v : V) (a : Arc), vs = [.ref L.o, v] ∧ LineAt K C L N sp s H ∧ rArc K H v a ∧ (a.t ≤ 1 → a.n < N) ∧ (2 ≤ a.t → a.n < sp.length) ∧ a.t ≤ 3 ∧
  ∀ H2, LineAt K C L N sp (go a s) H2 → L.Kept H H2 → Q .non H2
theorem ok_go_along (T : Txt K mg) : FnOk P w K mg base CX0 1 T.m_go_along.f T.m_go_along.fd ["self", "arc"] (sp_go_along K T.C) := by
  refine T.m_go_along.F.ok sc_go_along (fun vs H Q E h => ?_) (fun cdv A outer s H vs Q E hr h => ?_)
  · obtain ⟨L, N, sp, s, v, a, rfl, _⟩ := h
    rfl
  · obtain ⟨L, N, sp, s, v, ⟨u, v2, g, t, n⟩, rfl, A1, ⟨tp, rfl, ht⟩, c1, c2, c3, q⟩ := h
    dsimp only at ht c1 c2 c3
    refine ⟨_, (pss_cons (ps_asg (pe_slice (kSlT K) (pv 1) (po_some pe_int) po_none) (kPgT (n := 2) K (pg_tup rfl (pgs_cons (pg_name (i := 2) sc_go_along.nd rfl (Or.inl rfl)) (pgs_cons (pg_name (i := 3) sc_go_along.nd rfl (Or.inl rfl)) pgs_nil)))))
      (pss_one (ps_if (pt_cmpR op_eq (pv 2) pe_str (nomark _)) (pss_one (ps_asg (pe_op op_add (pe_ix (kIxL K) (kFld K (pv 0) rfl) (pv 3) (fun _ _ => rfl)) pe_int) (pg_sub (kFld K (pv 0) rfl) (pv 3) set_list))) (pss_one (ps_if (pt_cmpR op_eq (pv 2) pe_str (nomark _)) (pss_one (ps_asg (pe_op op_sub (pe_ix (kIxL K) (kFld K (pv 0) rfl) (pv 3) (fun _ _ => rfl)) pe_int) (pg_sub (kFld K (pv 0) rfl) (pv 3) set_list))) (pss_one (ps_if (pt_cmpR op_eq (pv 2) pe_str (nomark _)) (pss_one (ps_asg (pe_op op_add (pe_ix (kIxL K) (kFld K (pv 0) rfl) (pv 3) (fun _ _ => rfl)) pe_int) (pg_sub (kFld K (pv 0) rfl) (pv 3) set_list))) (pss_one (ps_if (pt_cmpR op_eq (pv 2) pe_str (nomark _)) (pss_one (ps_asg (pe_op op_sub (pe_ix (kIxL K) (kFld K (pv 0) rfl) (pv 3) (fun _ _ => rfl)) pe_int) (pg_sub (kFld K (pv 0) rfl) (pv 3) set_list))) (pss_one (ps_asg (pe_cmpR op_eq (pv 2) pe_str (nomark _)) (pg_sub (kFld K (pv 0) rfl) (pv 3) set_list)))))))))))), ?_⟩
    refine ⟨_, rfl, _, rfl, tp, _, rfl, ht, (by show ¬ (HT.sIx 5 0 (some 3) = 0 ∧ HT.sIx 5 5 none = 5); decide), fun d hd => ?_⟩
    have eD : Ex H (upd H d (.tup [.str (kindS t), .int (n : Int)])) := Ex.new hd
    refine tg_2 (x := .str (kindS t)) (y := .int (n : Int)) (st_of upd_same) _ (Ex.refl _) _ ?_
    have A2 := A1.mono eD
    generalize upd H d (.tup [.str (kindS t), .int (n : Int)]) = H1 at eD A2 ⊢
    have l4 := A1.li
    have l5 := A1.lt
    have fin4 : ∀ {H2 : Hp} {x : Int}, Ex H1 H2 → (s.1.set n x, s.2) = go ⟨u, v2, g, t, n⟩ s → Q .non (upd H2 L.l4 (.lst ((s.1.map V.int).set n (.int x)))) := fun {H2 x} e2 eg => by
      refine q _ ?_ (by unfold La.Kept; rw [L.two_same (.inl rfl)]; exact new_mono (eD.trans e2))
      have := (A2.mono e2).set4 (xs := s.1.set n x) (by rw [List.length_set]; exact l4)
      rw [List.map_set, eg] at this
      exact this
    have fin5 : ∀ {H2 : Hp} {x : Bool}, Ex H1 H2 → (s.1, s.2.set n x) = go ⟨u, v2, g, t, n⟩ s → Q .non (upd H2 L.l5 (.lst ((s.2.map V.bl).set n (.bl x)))) := fun {H2 x} e2 eg => by
      refine q _ ?_ (by unfold La.Kept; rw [L.two_same (.inr rfl)]; exact new_mono (eD.trans e2))
      have := (A2.mono e2).set5 (bs := s.2.set n x) (by rw [List.length_set]; exact l5)
      rw [List.map_set, eg] at this
      exact this
    rcases Nat.lt_or_ge t 2 with h2 | h2
    · have hn := c1 (by omega)
      rcases (show t = 0 ∨ t = 1 by omega) with rfl | rfl
      · refine s_if (b := true) (et_test (ev_is (ev_op (ev_var rfl) ev_c (rv_eq rfl)) (by decide +kernel))) (fun _ H2 e2 => ?_) fun hb => nomatch hb
        have A3 := A2.mono e2
        exact s_setL A3.h4 (ev_op (A3.i4 (ev_var rfl) T.cl T.a_idle hn (ev_var rfl)) ev_c rv_I0) (A3.f4 (ev_var rfl) T.cl T.a_idle) (ev_var rfl) (by rw [List.length_map, l4]; exact hn) fun H3 e3 => fin4 (e2.trans e3) rfl
      · refine s_if (b := false) (et_test (ev_is (ev_op (ev_var rfl) ev_c (rv_eq rfl)) (by decide +kernel))) (fun hb => nomatch hb) fun _ H2 e2 => ?_
        refine s_if (b := true) (et_test (ev_is (ev_op (ev_var rfl) ev_c (rv_eq rfl)) (by decide +kernel))) (fun _ H3 e3 => ?_) fun hb => nomatch hb
        have A3 := A2.mono (e2.trans e3)
        exact s_setL A3.h4 (ev_op (A3.i4 (ev_var rfl) T.cl T.a_idle hn (ev_var rfl)) ev_c rv_I0) (A3.f4 (ev_var rfl) T.cl T.a_idle) (ev_var rfl) (by rw [List.length_map, l4]; exact hn) fun H4 e4 => fin4 ((e2.trans e3).trans e4) rfl
    · have hn := c2 h2
      have nk : ∀ x : Str, x = "idle" ∨ x = "unidle" ∨ x = "fill" ∨ x = "unfill" → decide (V.str (kindS t) = V.str x) = false := by
        rcases (show t = 2 ∨ t = 3 by omega) with rfl | rfl
        · rintro x (rfl | rfl | rfl | rfl) <;> decide +kernel
        · rintro x (rfl | rfl | rfl | rfl) <;> decide +kernel
      have yk : decide (V.str (kindS t) = V.str "take") = decide (t = 2) := by
        rcases (show t = 2 ∨ t = 3 by omega) with rfl | rfl <;> decide +kernel
      refine s_if (b := false) (et_test (ev_is (ev_op (ev_var rfl) ev_c (rv_eq rfl)) (by rw [nk _ (.inl rfl)]))) (fun hb => nomatch hb) fun _ H2 e2 => ?_
      refine s_if (b := false) (et_test (ev_is (ev_op (ev_var rfl) ev_c (rv_eq rfl)) (by rw [nk _ (.inr (.inl rfl))]))) (fun hb => nomatch hb) fun _ H3 e3 => ?_
      refine s_if (b := false) (et_test (ev_is (ev_op (ev_var rfl) ev_c (rv_eq rfl)) (by rw [nk _ (.inr (.inr (.inl rfl)))]))) (fun hb => nomatch hb) fun _ H4 e4 => ?_
      refine s_if (b := false) (et_test (ev_is (ev_op (ev_var rfl) ev_c (rv_eq rfl)) (by rw [nk _ (.inr (.inr (.inr rfl)))]))) (fun hb => nomatch hb) fun _ H5 e5 => ?_
      have e15 := ((e2.trans e3).trans e4).trans e5
      have A3 := A2.mono e15
      refine s_setL A3.h5 (v := .bl (decide (t = 2))) (ev_is (ev_op (ev_var rfl) ev_c (rv_eq rfl)) (by rw [yk])) (A3.f5 (ev_var rfl) T.cl T.a_taken) (ev_var rfl) (by rw [List.length_map, l5]; exact hn) fun H6 e6 => fin5 (e15.trans e6) ?_
      unfold go
      dsimp only
      rw [if_neg (by omega), if_neg (by omega)]
end
end BW
/-! The class: roads told, a unit sent, prices. -/
namespace BW
open PySem L2 Evl
local macro_rules | `(tactic| walk_at "at") => `(tactic| first | rfl | assumption | exact atI_nat (by assumption))
local macro_rules | `(tactic| walk_at "rv") => `(tactic| first | exact rv_I0 | exact rv_eq rfl | exact rv_ne rfl | exact rv_isN | exact rv_notN | exact rv_notB | exact rv_ixL (by assumption) (by walk_at "at") | exact rv_ixT (by assumption) (by walk_at "at") | exact rv_I (by omega))
local macro_rules | `(tactic| walk_at "ev") => `(tactic| first | exact ev_c | exact ev_var rfl | assumption | (apply ev_chain; walk_at "ev"; walk_at "ev"; walk_at "rv"; walk_at "ev"; walk_at "rv") | (apply ev_op; walk_at "ev"; walk_at "ev"; walk_at "rv"))
def optV : Option Int → V
  | none => .non
  | some i => .int i
def rOA (K : Frg) : Rep (Option Arc) := fun H v o => match o with
  | none => v = .non
  | some a => rArc K H v a
instance mOA {K : Frg} : Mono (rOA K) := ⟨fun {H H' v x} e h => by
  cases x with
  | none => exact h
  | some a => exact Mono.mono (R := rArc K) e h⟩
def rRoads (K : Frg) : Rep (Gs × Ls) := fun H v r => ∃ t a1 a2 ws, v = .ref t ∧ SqT K H t [.ref a1, .ref a2] ∧ SqL K H a1 (r.1.map optV) ∧ SqL K H a2 ws ∧ All2 (rOA K H) ws r.2
instance mRoads {K : Frg} : Mono (rRoads K) := ⟨fun e ⟨t, a1, a2, ws, h1, h2, h3, h4, h5⟩ => ⟨t, a1, a2, ws, h1, ex_t e h2, ex_l e h3, ex_l e h4, h5.mono fun _ _ => Mono.mono e⟩⟩
def arcD (a : Arc) : PyData := .tuple [.int a.u, .int a.v, .int a.g, .str (kindS a.t), .int a.n]
theorem dp_arc {K : Frg} {H : Hp} {v : V} {a : Arc} (h : rArc K H v a) : Dp K H v (arcD a) := by
  obtain ⟨t, rfl, ht⟩ := h
  exact .tup ht (.cons (.int _) (.cons (.int _) (.cons (.int _) (.cons (.str _) (.cons (.int _) .nil)))))
theorem gAt_at {gs : Gs} {v : Nat} (h : v < gs.length) : atI (gs.map optV) (v : Int) = some (optV (gAt gs v)) := atI_nat (by
  unfold gAt
  rw [List.getElem?_map, List.getD_eq_getElem?_getD, List.getElem?_eq_getElem h]; rfl)
theorem all2_zip {α : Type} {R : V → α → Prop} {vs : List V} {xs : List α} (h : All2 R vs xs) : ∀ b ∈ vs.zip xs, R b.1 b.2 := by
  intro b hb
  obtain ⟨i, hi, e⟩ := List.mem_iff_getElem.mp hb
  have : (vs.zip xs)[i]? = some (b.1, b.2) := by rw [List.getElem?_eq_getElem hi, e]
  obtain ⟨h1, h2⟩ := List.getElem?_zip_eq_some.mp this
  exact h.2 i _ _ h1 h2
theorem all2_set {α : Type} {R : V → α → Prop} {vs : List V} {xs : List α} {i : Nat} {v : V} {x : α} (h : All2 R vs xs) (r : R v x) : All2 R (vs.set i v) (xs.set i x) := by
  refine ⟨by rw [List.length_set, List.length_set]; exact h.1, fun j a b ha hb => ?_⟩
  rw [List.getElem?_set] at ha hb
  by_cases e : i = j
  · subst e
    rw [if_pos rfl] at ha hb
    have := h.1
    split at ha
    · split at hb
      · cases ha; cases hb; exact r
      · cases hb
    · cases ha
  · rw [if_neg e] at ha hb
    exact h.2 j a b ha hb
theorem relax_len (s : Rx) (a : Arc) : (relax s a).gs.length = s.gs.length ∧ (relax s a).ls.length = s.ls.length := by
  rcases relax_cases s a with ⟨e, _⟩ | ⟨g, _, _, e⟩
  · rw [e]; exact ⟨rfl, rfl⟩
  · rw [e]; exact ⟨List.length_set, List.length_set⟩
/-- what stands while the roads are told -/
structure RtAt (K : Frg) (H B : Hp) (a2 a3 a4 : Addr) (vs : List V) (as : List Arc) (gs : Gs) (ls : Ls) (H' : Hp) : Prop where
  ex : Ex H H'
  sb : Sub B H'
  g : H' a2 = some (.lst (gs.map optV))
  l : ∃ ws, H' a3 = some (.lst ws) ∧ All2 (rOA K (New B H')) ws ls
  a : New B H' a4 = some (.lst vs)
  r : All2 (rArc K (New B H')) vs as
section
variable {P : Program} {w : World} {K : Frg} {mg : Str → Option Value} {base : Heap}
section
variable {H B H' H2 : Hp} {a2 a3 a4 : Addr} {vs : List V} {as : List Arc} {gs : Gs} {ls : Ls}
theorem RtAt.mono (R : RtAt K H B a2 a3 a4 vs as gs ls H') (e : Ex H' H2) : RtAt K H B a2 a3 a4 vs as gs ls H2 := by
  obtain ⟨ws, q1, q2⟩ := R.l
  exact ⟨R.ex.trans e, R.sb.ex e, e _ _ R.g, ⟨ws, e _ _ q1, q2.mono fun _ _ => Mono.mono (new_mono e)⟩, new_mono e _ _ R.a, R.r.mono fun _ _ => Mono.mono (new_mono e)⟩
theorem RtAt.setG (R : RtAt K H B a2 a3 a4 vs as gs ls H') (h2 : H a2 = none) {o : HO} (b2 : B a2 = some o) (n : a2 ≠ a3) (i : Nat) (x : Option Int) : RtAt K H B a2 a3 a4 vs as (gs.set i x) ls (upd H' a2 (.lst ((gs.map optV).set i (optV x)))) := by
  obtain ⟨ws, q1, q2⟩ := R.l
  have e := new_mut (B := B) (H := H') (p := a2) (o := .lst ((gs.map optV).set i (optV x))) b2
  refine ⟨Ex.mut R.ex h2, fun b hb => ?_, by rw [upd_same, List.map_set], ⟨ws, by rw [upd_ne (Ne.symm n)]; exact q1, by rw [e]; exact q2⟩, by rw [e]; exact R.a, by rw [e]; exact R.r⟩
  have nb : b ≠ a2 := fun z => by rw [z, upd_same] at hb; cases hb
  rw [upd_ne nb] at hb
  exact R.sb b hb
theorem RtAt.setL (R : RtAt K H B a2 a3 a4 vs as gs ls H') (h3 : H a3 = none) {o : HO} (b3 : B a3 = some o) (n : a2 ≠ a3) (i : Nat) {v : V} {a : Arc} (r : rArc K (New B H') v a) {ws : List V} (hw : H' a3 = some (.lst ws)) : RtAt K H B a2 a3 a4 vs as gs (ls.set i (some a)) (upd H' a3 (.lst (ws.set i v))) := by
  obtain ⟨ws', q1, q2⟩ := R.l
  rw [hw] at q1
  cases q1
  have e := new_mut (B := B) (H := H') (p := a3) (o := .lst (ws.set i v)) b3
  refine ⟨Ex.mut R.ex h3, fun b hb => ?_, by rw [upd_ne n]; exact R.g, ⟨_, upd_same, by rw [e]; exact all2_set q2 r⟩, by rw [e]; exact R.a, by rw [e]; exact R.r⟩
  have nb : b ≠ a3 := fun z => by rw [z, upd_same] at hb; cases hb
  rw [upd_ne nb] at hb
  exact R.sb b hb
end
/-! ### roads_told -/
def sp_roads_told (K : Frg) (C : Addr) : Sp := fun vs H Q _ => ∃ (L : La) (N : Nat) (sp : List Spn) (s : Ln) (b : Int), vs = [.ref L.o] ∧ LineAt K C L N sp s H ∧ Held N sp b s ∧ Wsp N sp ∧ ∀ gs ls, Good N (arcsOf sp s) gs ls → RetN (fun G v => rRoads K G v (gs, ls)) H Q
theorem ok_roads_told (T : Txt K mg) : FnOk P w K mg base CX0 3 T.m_roads_told.f T.m_roads_told.fd ["self"] (sp_roads_told K T.C) := by
  refine T.m_roads_told.F.ok sc_roads_told (fun vs H Q E h => ?_) (fun cdv A outer s H vs Q E hr h => ?_)
  · obtain ⟨L, N, sp, s, b, rfl, _⟩ := h
    rfl
  · obtain ⟨L, N, sp, s, b, rfl, A1, KH, W, q⟩ := h
    refine ⟨_, (pss_cons (ps_set (i := 1) sc_roads_told.nd rfl (Or.inl rfl) (pe_op op_add (pe_callB (kLen K) rfl T.n_len (by decide +kernel) (pa_cons (kFld K (pv 0) rfl) pa_nil)) pe_int))
      (pss_cons (ps_setLc (i := 2) (own := [("node", 8)]) (g := gName 8) (tt := tYes) rfl sc_roads_told.nd rfl rfl (sw_true rfl rfl rfl (by decide +kernel)) (pi_range1 rfl T.n_range (pa_cons (pv 1) pa_nil)) (blkOk_by (own := [("node", 8)]) (N := N_roads_told) (sc := defScope S_roads_told) (by decide +kernel)) (fun _ _ _ _ _ => (pg_name (i := 8) sc_roads_told.nd rfl (Or.inl rfl))) (fun _ _ _ _ _ => pts_nil) (fun _ _ _ _ _ => pe_non))
      (pss_cons (ps_asg pe_int (pg_sub (pv 2) pe_int set_list))
      (pss_cons (ps_setLc (i := 3) (own := [("node", 8)]) (g := gName 8) (tt := tYes) rfl sc_roads_told.nd rfl rfl (sw_true rfl rfl rfl (by decide +kernel)) (pi_range1 rfl T.n_range (pa_cons (pv 1) pa_nil)) (blkOk_by (own := [("node", 8)]) (N := N_roads_told) (sc := defScope S_roads_told) (by decide +kernel)) (fun _ _ _ _ _ => (pg_name (i := 8) sc_roads_told.nd rfl (Or.inl rfl))) (fun _ _ _ _ _ => pts_nil) (fun _ _ _ _ _ => pe_non))
      (pss_cons (ps_set (i := 4) sc_roads_told.nd rfl (Or.inl rfl) (pe_callB (kSrtD K hr.units) rfl T.n_sorted (by decide +kernel) (pa_cons (pe_meth0 (pv 0) T.cl T.m_arcs_left.M (ok_arcs_left T) (hr.mono (by decide)) T.m_arcs_left.b .nil pass0) pa_nil)))
      (pss_cons (ps_set (i := 5) sc_roads_told.nd rfl (Or.inl rfl) pe_bl)
      (pss_cons (ps_while PassesOwn.never (pt_val (pv 5)) (pss_cons (ps_set (i := 5) sc_roads_told.nd rfl (Or.inl rfl) pe_bl)
      (pss_one (ps_for PassesOwn.never rfl (kPiL K (pv 4)) (pg_name (i := 6) sc_roads_told.nd rfl (Or.inl rfl))
      (pss_one (ps_if (pt_cmpR op_notN (pe_ix (kIxL K) (pv 2) (pe_ix (kIxT K) (pv 6) pe_int (fun _ _ => rfl)) (fun _ _ => rfl)) pe_non (nomark _)) (pss_cons (ps_set (i := 7) sc_roads_told.nd rfl (Or.inl rfl) (pe_op op_add (pe_ix (kIxL K) (pv 2) (pe_ix (kIxT K) (pv 6) pe_int (fun _ _ => rfl)) (fun _ _ => rfl)) (pe_ix (kIxT K) (pv 6) pe_int (fun _ _ => rfl))))
      (pss_one (ps_if (PW.pt (pw_or (pt_cmpR op_isN (pe_ix (kIxL K) (pv 2) (pe_ix (kIxT K) (pv 6) pe_int (fun _ _ => rfl)) (fun _ _ => rfl)) pe_non (nomark _)) (pw_or1 (pt_cmpR op_gt (pv 7) (pe_ix (kIxL K) (pv 2) (pe_ix (kIxT K) (pv 6) pe_int (fun _ _ => rfl)) (fun _ _ => rfl)) (nomark _))))) (pss_cons (ps_asg (pv 7) (pg_sub (pv 2) (pe_ix (kIxT K) (pv 6) pe_int (fun _ _ => rfl)) set_list))
      (pss_cons (ps_asg (pv 6) (pg_sub (pv 3) (pe_ix (kIxT K) (pv 6) pe_int (fun _ _ => rfl)) set_list))
      (pss_one (ps_set (i := 5) sc_roads_told.nd rfl (Or.inl rfl) pe_bl)))) pss_nil))) pss_nil))))))
      (pss_one (ps_ret (pe_tup (pa_cons (pv 2) (pa_cons (pv 3) pa_nil)))))))))))), ?_⟩
    have lN := A1.lN
    refine q_asg (v := .int ((N + 1 : Nat) : Int)) (ev_is (ev_op (A1.lenN (ev_var rfl) T.cl T.a_own_must) ev_c rv_I0) rfl) fun H1 e1 => ?_
    have nn : given ((N + 1 : Nat) : Int).toNat (fun _ => true) (fun _ => V.non) = (List.replicate (N + 1) (none : Option Int)).map optV := by
      rw [Int.toNat_natCast, given_all fun _ _ => rfl, map_const, List.length_range, List.map_replicate]
      rfl
    refine q_asgL (el_lcR1 (n := ((N + 1 : Nat) : Int)) (fun _ => true) (fun _ => V.non) (ea_cons (ev_var rfl) ea_nil) (by omega) (fun _ => rfl) (fun i H2 _ _ => et_yes) fun i H2 _ _ _ => ev_c) fun a2 H2 h2 e2 g2 => ?_
    rw [nn] at g2
    have h2' : H a2 = none := fresh_back e1 h2
    refine q_setL (j := 0) g2 (v := .int 0) ev_c (ev_var rfl) ev_c (by simp) fun H3 e3 => ?_
    have g3 : upd H3 a2 (.lst (((List.replicate (N + 1) (none : Option Int)).map optV).set 0 (.int 0))) a2 = some (.lst ((gs0 N).map optV)) := by
      rw [upd_same]
      unfold gs0
      rw [List.map_set]
      rfl
    have E3 : Ex H (upd H3 a2 (.lst (((List.replicate (N + 1) (none : Option Int)).map optV).set 0 (.int 0)))) := Ex.mut ((e1.trans e2).trans e3) h2'
    generalize upd H3 a2 (.lst (((List.replicate (N + 1) (none : Option Int)).map optV).set 0 (.int 0))) = G3 at g3 E3 ⊢
    refine q_asgL (el_lcR1 (n := ((N + 1 : Nat) : Int)) (fun _ => true) (fun _ => V.non) (ea_cons (ev_var rfl) ea_nil) (by omega) (fun _ => rfl) (fun i H2 _ _ => et_yes) fun i H2 _ _ _ => ev_c) fun a3 B h3 e4 g4 => ?_
    have nn2 : given ((N + 1 : Nat) : Int).toNat (fun _ => true) (fun _ => V.non) = List.replicate (N + 1) V.non := by
      rw [Int.toNat_natCast, given_all fun _ _ => rfl, map_const, List.length_range]
    rw [nn2] at g4
    have h3' : H a3 = none := fresh_back E3 h3
    have n23 : a2 ≠ a3 := fun z => by rw [← z, g3] at h3; cases h3
    have EB := E3.trans e4
    have b2 := e4 _ _ g3
    have A4 := A1.mono EB
    -- arcs
    refine ⟨_, rfl, _, _, _, rfl, A4.ob, rfl, spn_arcs_left (K := K) A4 B (Ex.refl _) _ (fun v H5 e5 ⟨a0, vs0, ev0, hv0, hA0⟩ => ?_) E0⟩
    have hz : vs0.length = (arcsOf sp s).length := hA0.1
    refine ⟨V × Arc, a0, vs0.zip (arcsOf sp s), Prod.fst, fun b => arcD b.2, by rw [ev0], ?_, fun b hb => dp_arc (Mono.mono new_ex (all2_zip hA0 b hb)), PySem.W.AllAlike.of fun b b' => by simp [arcD, PySem.W.alike, PySem.W.alikeAll], PySem.W.Sortable.tuples fun b => ⟨_, _, rfl⟩, fun b _ => ?_, fun cs a4 hperm h4 => ?_⟩
    · rw [List.map_fst_zip (by omega)]
      exact sq_of (new_ex _ _ hv0)
    · show PyData.depth (arcD b.2) ≤ 8
      exact Nat.le_trans (Nat.le_refl 1) (by decide)
    have pm : ∀ a, a ∈ cs.map Prod.snd ↔ a ∈ arcsOf sp s := fun a => by
      have := (hperm.map Prod.snd).mem_iff (a := a)
      rw [this, List.map_snd_zip (by omega)]
    have E6 : Ex B (upd H5 a4 (.lst (cs.map Prod.fst))) := e5.trans (Ex.new h4)
    have R0 : RtAt K H B a2 a3 a4 (cs.map Prod.fst) (cs.map Prod.snd) (gs0 N) (ls0 N) (upd H5 a4 (.lst (cs.map Prod.fst))) := by
      refine ⟨EB.trans E6, Sub.of E6, E6 _ _ b2, ⟨_, E6 _ _ g4, ?_⟩, ?_, ?_⟩
      · unfold ls0
        have := All2.map (R := rOA K (New B (upd H5 a4 (.lst (cs.map Prod.fst))))) (fun _ : Nat => (none : Option Arc)) (fun _ => V.non) (List.range (N + 1)) fun _ _ => rfl
        rwa [map_const, List.length_range, show (List.range (N + 1)).map (fun _ => (none : Option Arc)) = List.replicate (N + 1) none from by rw [List.map_const', List.length_range]] at this
      · rw [new_of (fresh_back e5 h4), upd_same]
      · exact All2.map (R := rArc K (New B (upd H5 a4 (.lst (cs.map Prod.fst))))) Prod.snd Prod.fst cs fun b hb => Mono.mono (new_mono (Ex.new h4)) (all2_zip hA0 b (hperm.mem_iff.mp hb))
    generalize upd H5 a4 (.lst (cs.map Prod.fst)) = H6 at E6 R0 ⊢
    generalize cs.map Prod.fst = vs at R0 ⊢
    generalize cs.map Prod.snd = as at R0 pm ⊢
    -- the maths
    have WN : Within N as := fun a ha => within_arcs A1.li W a ((pm a).mp ha)
    obtain ⟨p, hp, z0⟩ := KH.po
    have f0 : Feas as p := fun a ha => (pot_feas A1.li).mp hp a ((pm a).mp ha)
    have k0 := ok_start N as
    obtain ⟨n0, gsF, lsF, runs0⟩ := runs_end f0 z0 WN _ _ _ _ (Nat.le_refl _) (Nat.le_refl _) k0
    refine q_asg (v := .bl true) ev_c fun H7 e7 => ?_
    have R7 := R0.mono e7
    refine q_while (fun m σ' H' => ∃ (ch : Bool) (v6 v7 : Option V) (gs : Gs) (ls : Ls), σ' = [some (.ref L.o), some (.int ((N + 1 : Nat) : Int)), some (.ref a2), some (.ref a3), some (.ref a4), some (.bl ch), v6, v7, none] ∧ RtAt K H B a2 a3 a4 vs as gs ls H' ∧ Ok N as gs ls ∧
      ((ch = true ∧ ∃ n gs' ls', m = n + 1 ∧ Runs as n gs ls gs' ls') ∨ (ch = false ∧ Good N as gs ls))) (n0 + 1) ⟨true, none, none, gs0 N, ls0 N, rfl, R7, k0, .inl ⟨rfl, n0, gsF, lsF, rfl, runs0⟩⟩ ?_
    rintro m σ' H' ⟨ch, v6, v7, gs, ls, rfl, R, ok, cs⟩
    refine ⟨ch, et_B (ev_var rfl), fun hch H8 e8 => ?_, fun hch H8 e8 => ?_⟩
    · -- a pass
      rcases cs with ⟨_, n, gs', ls', rfl, runs⟩ | ⟨c, _⟩
      · refine ⟨fun σ2 H2 => ∃ (ch : Bool) (v6 v7 : Option V) (gs2 : Gs) (ls2 : Ls), σ2 = [some (.ref L.o), some (.int ((N + 1 : Nat) : Int)), some (.ref a2), some (.ref a3), some (.ref a4), some (.bl ch), v6, v7, none] ∧ RtAt K H B a2 a3 a4 vs as gs2 ls2 H2 ∧ Ok N as gs2 ls2 ∧
          ((ch = true ∧ ∃ k gs' ls', n = k + 1 ∧ Runs as k gs2 ls2 gs' ls') ∨ (ch = false ∧ Good N as gs2 ls2)), fun σ2 H2 h => ⟨n, by omega, h⟩, ?_⟩
        refine q_asg (v := .bl false) ev_c fun H9 e9 => ?_
        have R9 := R.mono (e8.trans e9)
        refine s_forLn (ev_var rfl) (ex_l new_ex (sq_of R9.a)) (fun i σ2 H2 => ∃ (v6 v7 : Option V) (s : Rx), s = (as.take i).foldl relax ⟨gs, ls, false⟩ ∧ σ2 = [some (.ref L.o), some (.int ((N + 1 : Nat) : Int)), some (.ref a2), some (.ref a3), some (.ref a4), some (.bl s.ch), v6, v7, none] ∧ RtAt K H B a2 a3 a4 vs as s.gs s.ls H2 ∧ s.gs.length = N + 1 ∧ s.ls.length = N + 1)
          (fun H2 e2 => ⟨_, _, ⟨gs, ls, false⟩, rfl, rfl, R9.mono e2, ok.lg, ok.ll⟩) (fun i σ2 H2 _ ⟨_, _, s, _, _, R, _⟩ => ex_l new_ex (sq_of R.a)) ?_ ?_
        · rintro i v σ2 H2 hi ⟨v6, v7, s, hs, rfl, R, lg, ll⟩
          obtain ⟨a, ha, r⟩ := R.r.of_v hi
          have es : (as.take (i + 1)).foldl relax ⟨gs, ls, false⟩ = relax s a := by
            rw [List.take_add_one, ha, List.foldl_append, ← hs]
            rfl
          obtain ⟨wu, wv, _⟩ := WN a (List.mem_of_getElem? ha)
          obtain ⟨t, rfl, ht⟩ := id r
          have rl := relax_len s a
          have i0 : ∀ {x7 : Option V} {c : Bool} {H3 : Hp}, RtAt K H B a2 a3 a4 vs as s.gs s.ls H3 → Ex H2 H3 → Ev (tOp (rIxL K) (tVar 2) (tOp (rIxT K) (tVar 6) (tC (.int 0)))) [some (.ref L.o), some (.int ((N + 1 : Nat) : Int)), some (.ref a2), some (.ref a3), some (.ref a4), some (.bl c), some (.ref t), x7, none] H3 (optV (gAt s.gs a.u)) := fun R3 e3 =>
            ev_op (ev_var rfl) (ev_op (ev_var rfl) ev_c (rv_ixT (ex_t (new_ex.trans e3) ht) rfl)) (rv_ixL (sq_of R3.g) (gAt_at (by omega)))
          have j1 : ∀ {x7 : Option V} {c : Bool} {H3 : Hp}, Ex H2 H3 → Ev (tOp (rIxT K) (tVar 6) (tC (.int 1))) [some (.ref L.o), some (.int ((N + 1 : Nat) : Int)), some (.ref a2), some (.ref a3), some (.ref a4), some (.bl c), some (.ref t), x7, none] H3 (.int (a.v : Int)) := fun e3 => ev_op (ev_var rfl) ev_c (rv_ixT (ex_t (new_ex.trans e3) ht) rfl)
          have i1 : ∀ {x7 : Option V} {c : Bool} {H3 : Hp}, RtAt K H B a2 a3 a4 vs as s.gs s.ls H3 → Ex H2 H3 → Ev (tOp (rIxL K) (tVar 2) (tOp (rIxT K) (tVar 6) (tC (.int 1)))) [some (.ref L.o), some (.int ((N + 1 : Nat) : Int)), some (.ref a2), some (.ref a3), some (.ref a4), some (.bl c), some (.ref t), x7, none] H3 (optV (gAt s.gs a.v)) := fun R3 e3 =>
            ev_op (ev_var rfl) (j1 e3) (rv_ixL (sq_of R3.g) (gAt_at (by omega)))
          refine s_when (b := !decide (optV (gAt s.gs a.u) = .non)) (et_test (ev_op (i0 R (Ex.refl _)) ev_c rv_notN)) (fun hb H3 e3 => ?_) fun hb H3 e3 => ?_
          · cases hg : gAt s.gs a.u with
            | none => rw [hg] at hb; simp [optV] at hb
            | some g =>
              have i0' := i0 (x7 := v7) (c := s.ch) (R.mono e3) e3
              rw [hg] at i0'
              refine q_asg (v := .int (g + a.g)) (ev_op i0' (ev_op (ev_var rfl) ev_c (rv_ixT (ex_t (new_ex.trans e3) ht) rfl)) rv_I0) fun H4 e4 => ?_
              have R4 := R.mono (e3.trans e4)
              have i1' := i1 (x7 := some (.int (g + a.g))) (c := s.ch) R4 (e3.trans e4)
              have keep : relax s a = s → ∃ (v6 v7 : Option V) (s2 : Rx), s2 = (as.take (i + 1)).foldl relax ⟨gs, ls, false⟩ ∧ [some (.ref L.o), some (.int ((N + 1 : Nat) : Int)), some (.ref a2), some (.ref a3), some (.ref a4), some (.bl s.ch), some (.ref t), some (.int (g + a.g)), none] = [some (.ref L.o), some (.int ((N + 1 : Nat) : Int)), some (.ref a2), some (.ref a3), some (.ref a4), some (.bl s2.ch), v6, v7, none] ∧ RtAt K H B a2 a3 a4 vs as s2.gs s2.ls H4 ∧ s2.gs.length = N + 1 ∧ s2.ls.length = N + 1 :=
                fun e => ⟨_, _, s, by rw [es, e], rfl, R4, lg, ll⟩
              have put : relax s a = ⟨s.gs.set a.v (some (g + a.g)), s.ls.set a.v (some a), true⟩ → ∀ {H5 : Hp}, Ex H4 H5 → ∀ {H6 : Hp}, Ex (upd H5 a2 (.lst ((s.gs.map optV).set a.v (.int (g + a.g))))) H6 → ∀ ws, H6 a3 = some (.lst ws) → ∀ {H7 : Hp}, Ex (upd H6 a3 (.lst (ws.set a.v (.ref t)))) H7 →
                  ∃ (v6 v7 : Option V) (s2 : Rx), s2 = (as.take (i + 1)).foldl relax ⟨gs, ls, false⟩ ∧ [some (.ref L.o), some (.int ((N + 1 : Nat) : Int)), some (.ref a2), some (.ref a3), some (.ref a4), some (.bl true), some (.ref t), some (.int (g + a.g)), none] = [some (.ref L.o), some (.int ((N + 1 : Nat) : Int)), some (.ref a2), some (.ref a3), some (.ref a4), some (.bl s2.ch), v6, v7, none] ∧ RtAt K H B a2 a3 a4 vs as s2.gs s2.ls H7 ∧ s2.gs.length = N + 1 ∧ s2.ls.length = N + 1 := by
                intro e H5 e5 H6 e6 ws hws H7 e7
                have R5 := (R4.mono e5).setG h2' b2 n23 a.v (some (g + a.g))
                have R6 := R5.mono e6
                have r6 : rArc K (New B H6) (.ref t) a := by
                  have h1 : rArc K (New B H5) (.ref t) a := Mono.mono (new_mono ((e3.trans e4).trans e5)) r
                  have h2 := new_mut (B := B) (H := H5) (p := a2) (o := .lst ((s.gs.map optV).set a.v (.int (g + a.g)))) b2
                  rw [← h2] at h1
                  exact Mono.mono (new_mono e6) h1
                have R7 := (R6.setL h3' (B := B) g4 n23 a.v r6 hws).mono e7
                refine ⟨_, _, relax s a, es.symm, by rw [e], ?_, by rw [rl.1]; exact lg, by rw [rl.2]; exact ll⟩
                rw [e]
                exact R7
              have three : relax s a = ⟨s.gs.set a.v (some (g + a.g)), s.ls.set a.v (some a), true⟩ → ∀ {D : Ends}, (∀ σ2 H2, (∃ (v6 v7 : Option V) (s : Rx), s = (as.take (i + 1)).foldl relax ⟨gs, ls, false⟩ ∧ σ2 = [some (.ref L.o), some (.int ((N + 1 : Nat) : Int)), some (.ref a2), some (.ref a3), some (.ref a4), some (.bl s.ch), v6, v7, none] ∧ RtAt K H B a2 a3 a4 vs as s.gs s.ls H2 ∧ s.gs.length = N + 1 ∧ s.ls.length = N + 1) → D.nx σ2 H2) →
                  ∀ H5, Ex H4 H5 → tSeq (tAsg (tVar 7) (gSub (tVar 2) (tOp (rIxT K) (tVar 6) (tC (.int 1))) rSetL)) (tSeq (tAsg (tVar 6) (gSub (tVar 3) (tOp (rIxT K) (tVar 6) (tC (.int 1))) rSetL)) (tAsg (tC (.bl true)) (gName 5))) D
                  [some (.ref L.o), some (.int ((N + 1 : Nat) : Int)), some (.ref a2), some (.ref a3), some (.ref a4), some (.bl s.ch), some (.ref t), some (.int (g + a.g)), none] H5 := by
                intro e D hD H5 e5
                refine q_setL (j := a.v) (R4.mono e5).g (v := .int (g + a.g)) (ev_var rfl) (ev_var rfl) (j1 ((e3.trans e4).trans e5)) (by rw [List.length_map]; omega) fun H6 e6 => ?_
                have R6 := ((R4.mono (e5.trans e6))).setG h2' b2 n23 a.v (some (g + a.g))
                obtain ⟨ws, hw1, hw2⟩ := R6.l
                have ht6 : SqT K (upd H6 a2 (.lst ((s.gs.map optV).set a.v (.int (g + a.g))))) t [.int (a.u : Int), .int (a.v : Int), .int a.g, .str (kindS a.t), .int (a.n : Int)] := by
                  have h1 := ex_t (new_mono (B := B) (((e3.trans e4).trans e5).trans e6)) ht
                  rw [← new_mut (B := B) (p := a2) (o := .lst ((s.gs.map optV).set a.v (.int (g + a.g)))) b2] at h1
                  exact ex_t new_ex h1
                refine q_setL (j := a.v) hw1 (v := .ref t) (ev_var rfl) (ev_var rfl) (ev_op (ev_var rfl) ev_c (rv_ixT ht6 rfl)) (by rw [hw2.1]; omega) fun H7 e7 => ?_
                refine s_asg (v := .bl true) ev_c fun H8 e8 => ?_
                exact hD _ _ (put e (e5.trans e6) e7 ws (e7 _ _ hw1) e8)
              cases hv : gAt s.gs a.v with
              | none =>
                have er : relax s a = ⟨s.gs.set a.v (some (g + a.g)), s.ls.set a.v (some a), true⟩ := by unfold relax; rw [hg]; dsimp only; rw [hv]
                rw [hv] at i1'
                exact s_when (b := true) (et_is (et_or (a := true) (b := false) (et_test (ev_is (ev_op i1' ev_c rv_isN) rfl)) fun z => nomatch z) rfl) (fun _ H5 e5 => three er (fun _ _ h => h) H5 e5) fun z => nomatch z
              | some h =>
                rw [hv] at i1'
                refine s_when (b := decide (h < g + a.g)) (et_is (et_or (a := false) (b := decide (h < g + a.g)) (et_test (ev_is (ev_op i1' ev_c rv_isN) rfl)) fun _ => et_test (ev_op (ev_var rfl) i1' rv_I0)) (Bool.false_or _)) (fun hlt H5 e5 => three ?_ (fun _ _ h => h) H5 e5) fun hlt H5 e5 => ?_
                · unfold relax; rw [hg]; dsimp only; rw [hv]; dsimp only
                  rw [if_pos (of_decide_eq_true hlt)]
                · have er : relax s a = s := by
                    unfold relax; rw [hg]; dsimp only; rw [hv]; dsimp only
                    rw [if_neg (show ¬ g + a.g > h from of_decide_eq_false hlt)]
                  obtain ⟨x6, x7, s2, q1, q2, q3, q4⟩ := keep er
                  exact ⟨x6, x7, s2, q1, q2, q3.mono e5, q4⟩
          · cases hg : gAt s.gs a.u with
            | none =>
              have er : relax s a = s := by unfold relax; rw [hg]
              exact ⟨_, _, s, by rw [es, er], rfl, R.mono e3, lg, ll⟩
            | some g => rw [hg] at hb; simp [optV] at hb
        · rintro σ2 H2 ⟨v6, v7, s, hs, rfl, R, lg, ll⟩
          rw [R.r.1, List.take_length] at hs
          have hs' : s = pass as gs ls := hs
          have PO := (pass_ok f0 z0 WN ok).ok
          rw [hs']
          rw [hs'] at R
          cases runs with
          | stop hc =>
            refine ⟨_, v6, v7, _, _, rfl, R, PO, .inr ⟨hc, ?_⟩⟩
            exact Runs.good f0 z0 WN ok (.stop hc)
          | more hc r => exact ⟨_, v6, v7, _, _, rfl, R, PO, .inl ⟨hc, _, _, _, rfl, r⟩⟩
      · rw [c] at hch; cases hch
    · -- the end
      rcases cs with ⟨c, _⟩ | ⟨_, G⟩
      · rw [c] at hch; cases hch
      · have R8 := R.mono e8
        refine s_retU (eu_tup (ea_cons (ev_var rfl) (ea_cons (ev_var rfl) ea_nil)) (by simp)) fun t H9 ht e9 h9 => ?_
        have R9 := R8.mono e9
        obtain ⟨ws, hw1, hw2⟩ := R9.l
        refine q gs ls (G.iff pm) _ _ R9.ex ⟨t, a2, a3, ws, rfl, st_of (by rw [new_of (fresh_back R8.ex ht)]; exact h9), sq_of (by rw [new_of h2']; exact R9.g), sq_of (by rw [new_of h3']; exact hw1), hw2.mono fun _ _ => Mono.mono (new_base fun b hb => fresh_back EB hb)⟩
theorem spn_roads_told {C : Addr} {L : La} {N : Nat} {sp : List Spn} {s : Ln} {b : Int} {H : Hp} {Q : VK} {E : XK} (A : LineAt K C L N sp s H) (KH : Held N sp b s) (W : Wsp N sp) (q : ∀ gs ls, Good N (arcsOf sp s) gs ls → ∀ v H1, Ex H H1 → rRoads K (New H H1) v (gs, ls) → Q v H1) : sp_roads_told K C [.ref L.o] H Q E :=
  ⟨L, N, sp, s, b, rfl, A, KH, W, fun gs ls G v H1 e r => q gs ls G v H1 e r⟩
/-! ### send_unit -/
theorem arc_of {sp : List Spn} {s : Ln} {N : Nat} {a : Arc} (li : s.1.length = N) (h : a ∈ arcsOf sp s) : (a.t ≤ 1 → a.n < N) ∧ (2 ≤ a.t → a.n < sp.length) ∧ a.t ≤ 3 := by
  rcases mem_arcs.mp h with ⟨k, hk, rfl⟩ | ⟨k, hk, _, rfl⟩ | ⟨i, hi, _, rfl⟩ | ⟨i, hi, _, rfl⟩ <;> dsimp only <;> omega
def sp_send_unit (K : Frg) (C : Addr) : Sp := fun vs H Q _ => ∃ (L : La) (N : Nat) (sp : List Spn) (s : Ln) (b : Int), vs = [.ref L.o] ∧ LineAt K C L N sp s H ∧ Held N sp b s ∧ Wsp N sp ∧ ∀ gs ls m, Good N (arcsOf sp s) gs ls → Reach ls N m → ∀ H2, LineAt K C L N sp (back ls m N s) H2 → L.Kept H H2 → Q .non H2
theorem ok_send_unit (T : Txt K mg) : FnOk P w K mg base CX0 4 T.m_send_unit.f T.m_send_unit.fd ["self"] (sp_send_unit K T.C) := by
  refine T.m_send_unit.F.ok sc_send_unit (fun vs H Q E h => ?_) (fun cdv A outer s H vs Q E hr h => ?_)
  · obtain ⟨L, N, sp, s, b, rfl, _⟩ := h
    rfl
  · obtain ⟨L, N, sp, s, b, rfl, A1, KH, W, q⟩ := h
    refine ⟨_, (pss_cons (ps_asg (pe_meth0 (pv 0) T.cl T.m_roads_told.M (ok_roads_told T) (hr.mono (by decide)) T.m_roads_told.b .nil pass0) (kPgT (n := 2) K (pg_tup rfl (pgs_cons (pg_name (i := 1) sc_send_unit.nd rfl (Or.inl rfl)) (pgs_cons (pg_name (i := 2) sc_send_unit.nd rfl (Or.inl rfl)) pgs_nil)))))
      (pss_cons (ps_set (i := 3) sc_send_unit.nd rfl (Or.inl rfl) (pe_callB (kLen K) rfl T.n_len (by decide +kernel) (pa_cons (kFld K (pv 0) rfl) pa_nil)))
      (pss_one (ps_while PassesOwn.never (pt_cmpR op_ne (pv 3) pe_int (nomark _)) (pss_cons (ps_set (i := 4) sc_send_unit.nd rfl (Or.inl rfl) (pe_ix (kIxL K) (pv 2) (pv 3) (fun _ _ => rfl)))
      (pss_cons (ps_expr (pe_meth (pv 0) T.cl T.m_go_along.M (ok_go_along T) (hr.mono (by decide)) T.m_go_along.b .nil pass0 (pa_cons (pv 4) pa_nil)))
      (pss_one (ps_set (i := 3) sc_send_unit.nd rfl (Or.inl rfl) (pe_ix (kIxT K) (pv 4) pe_int (fun _ _ => rfl)))))))))), ?_⟩
    refine ⟨_, rfl, _, _, _, rfl, A1.ob, rfl, spn_roads_told (E := E0) A1 KH W fun gs ls G v H1 e1 r => ?_⟩
    have r2 : rRoads K (New L.two H1) v (gs, ls) := Mono.mono (R := rRoads K) (new_base fun b hb => L.two_none (fun z => by rw [z, A1.h4] at hb; cases hb) (fun z => by rw [z, A1.h5] at hb; cases hb)) r
    obtain ⟨t, a1, a2, ws, rfl, ht, hg, hl, hW⟩ := r2
    refine tg_2 (ex_t new_ex ht) _ (Ex.refl _) _ ?_
    dsimp only
    have A2 := A1.mono e1
    have I := idle_arcs (sp := sp) A1.li
    have WN := within_arcs (sp := sp) A1.li W
    obtain ⟨m0, hm0⟩ := G.reach I (Nat.le_refl N)
    refine q_asg (A2.lenN (ev_var rfl) T.cl T.a_own_must) fun H2 e2 => ?_
    refine s_while (fun m σ' H' => ∃ (v : Nat) (v4 : Option V) (s' : Ln), σ' = [some (.ref L.o), some (.ref a1), some (.ref a2), some (.int (v : Int)), v4] ∧ LineAt K T.C L N sp s' H' ∧ L.Kept H H' ∧ Reach ls v m ∧ back ls m v s' = back ls m0 N s ∧ SqL K (New L.two H') a2 ws ∧ All2 (rOA K (New L.two H')) ws ls) m0
      ⟨N, none, s, rfl, A2.mono e2, La.Kept.of (e1.trans e2), hm0, rfl, ex_l (new_mono e2) hl, hW.mono fun _ _ => Mono.mono (new_mono e2)⟩ ?_
    rintro m σ' H' ⟨v, v4, s', rfl, A3, k3, hr3, hb3, hl3, hW3⟩
    refine ⟨!decide (V.int (v : Int) = V.int 0), et_test (ev_op (ev_var rfl) ev_c (rv_ne rfl)), fun hb H4 e4 => ?_, fun hb H4 e4 => ?_⟩
    · cases hr3 with
      | zero => simp at hb
      | @step _ n a hv0 ha hr4 =>
        have hmem := (G.tight W KH v a hv0 ha).1
        obtain ⟨c1, c2, c3⟩ := arc_of A1.li hmem
        have hlv : ls[v]? = some (some a) := by
          have h1 : ls.getD v none = some a := ha
          rw [List.getD_eq_getElem?_getD] at h1
          cases h2 : ls[v]? with
          | none => rw [h2] at h1; cases h1
          | some x => rw [h2] at h1; rw [show x = some a from h1]
        obtain ⟨y, hy, ry⟩ := hW3.at_ hlv
        have ry' : rArc K (New L.two H') y a := ry
        refine ⟨fun σ2 H2 => ∃ (v : Nat) (v4 : Option V) (s' : Ln), σ2 = [some (.ref L.o), some (.ref a1), some (.ref a2), some (.int (v : Int)), v4] ∧ LineAt K T.C L N sp s' H2 ∧ L.Kept H H2 ∧ Reach ls v n ∧ back ls n v s' = back ls m0 N s ∧ SqL K (New L.two H2) a2 ws ∧ All2 (rOA K (New L.two H2)) ws ls, fun σ2 H2 h => ⟨n, by omega, h⟩, ?_⟩
        refine q_asg (ev_op (ev_var rfl) (ev_var rfl) (rv_ixL (ex_l (new_ex.trans e4) hl3) (atI_nat hy))) fun H5 e5 => ?_
        have e45 := e4.trans e5
        refine ⟨_, rfl, _, _, _, rfl, (A3.mono e45).ob, rfl, _, rfl, L, N, sp, s', y, a, rfl, A3.mono e45, Mono.mono (new_ex.trans e45) ry', c1, c2, c3, fun H6 A6 k6 => ?_⟩
        have k36 : Ex (New L.two H') (New L.two H6) := (new_mono e45).trans k6
        obtain ⟨ty, e0, hty⟩ := ry'
        subst e0
        refine s_asg (ev_op (ev_var rfl) ev_c (rv_ixT (ex_t (k36.trans new_ex) hty) rfl)) fun H7 e7 => ?_
        refine ⟨a.u, _, go a s', rfl, A6.mono e7, (k3.trans k36).trans (new_mono e7), hr4, ?_, ex_l (k36.trans (new_mono e7)) hl3, hW3.mono fun _ _ => Mono.mono (k36.trans (new_mono e7))⟩
        rw [← hb3]
        show _ = (match lAt ls v with | some a => back ls n a.u (go a s') | none => s')
        rw [ha]
    · cases hr3 with
      | zero =>
        refine q gs ls m0 G hm0 H4 ?_ (k3.trans (La.Kept.of e4))
        rw [← hb3]
        exact A3.mono e4
      | @step _ n a hv0 ha hr4 =>
        exfalso
        have : V.int (v : Int) = V.int 0 := by
          cases hd : decide (V.int (v : Int) = V.int 0) with
          | true => exact of_decide_eq_true hd
          | false => rw [hd] at hb; cases hb
        injection this with this
        omega
/-! ### prices_now -/
def sp_prices_now (K : Frg) (C : Addr) : Sp := fun vs H Q _ => ∃ (L : La) (N : Nat) (sp : List Spn) (s : Ln) (b : Int), vs = [.ref L.o] ∧ LineAt K C L N sp s H ∧ Held N sp b s ∧ Wsp N sp ∧ ∀ gs ls, Good N (arcsOf sp s) gs ls → RetN (fun G v => rTL rInt G v ((List.range N).map fun k => pot gs (k + 1) - pot gs k)) H Q
theorem ok_prices_now (T : Txt K mg) : FnOk P w K mg base CX0 4 T.m_prices_now.f T.m_prices_now.fd ["self"] (sp_prices_now K T.C) := by
  refine T.m_prices_now.F.ok sc_prices_now (fun vs H Q E h => ?_) (fun cdv A outer s H vs Q E hr h => ?_)
  · obtain ⟨L, N, sp, s, b, rfl, _⟩ := h
    rfl
  · obtain ⟨L, N, sp, s, b, rfl, A1, KH, W, q⟩ := h
    refine ⟨_, (pss_cons (ps_asg (pe_meth0 (pv 0) T.cl T.m_roads_told.M (ok_roads_told T) (hr.mono (by decide)) T.m_roads_told.b .nil pass0) (kPgT (n := 2) K (pg_tup rfl (pgs_cons (pg_name (i := 1) sc_prices_now.nd rfl (Or.inl rfl)) (pgs_cons (pg_name (i := 2) sc_prices_now.nd rfl (Or.inl rfl)) pgs_nil)))))
      (pss_cons (ps_set (i := 3) sc_prices_now.nd rfl (Or.inl rfl) (pe_lst pa_nil))
      (pss_cons (ps_for PassesOwn.never rfl (pi_range1 rfl T.n_range (pa_cons (pe_callB (kLen K) rfl T.n_len (by decide +kernel) (pa_cons (kFld K (pv 0) rfl) pa_nil)) pa_nil)) (pg_name (i := 4) sc_prices_now.nd rfl (Or.inl rfl))
      (pss_one (ps_expr (kBM K (pe_bm PySem.F.plainAttrs_list PySem.F.slot_list_append PySem.F.type_list_append mt_append (pv 3) (pa_cons (pe_callB (call_min2 rfl) rfl T.n_min (by decide +kernel) (pa_cons (pe_op op_sub (pe_ix (kIxL K) (pv 1) (pe_op op_add (pv 4) pe_int) (fun _ _ => rfl)) (pe_ix (kIxL K) (pv 1) (pv 4) (fun _ _ => rfl))) (pa_cons (pe_meth (pv 0) T.cl T.m_greatest_over.M (ok_greatest_over T) (hr.mono (by decide)) T.m_greatest_over.b .nil pass0 (pa_cons (pv 4) pa_nil)) pa_nil))) pa_nil))))))
      (pss_one (ps_ret (pv 3)))))), ?_⟩
    refine ⟨_, rfl, _, _, _, rfl, A1.ob, rfl, spn_roads_told (E := E0) A1 KH W fun gs ls G v H1 e1 r => ?_⟩
    have r2 : rRoads K H1 v (gs, ls) := Mono.mono (R := rRoads K) new_ex r
    obtain ⟨t, a1, a2, ws, rfl, ht, hg, hl, hW⟩ := r2
    refine tg_2 ht _ (Ex.refl _) _ ?_
    dsimp only
    have A2 := A1.mono e1
    have I := idle_arcs (sp := sp) A1.li
    have lN := A1.lN
    have lg : gs.length = N + 1 := G.ok.lg
    dsimp only at hg
    have pa : ∀ k, k ≤ N → optV (gAt gs k) = .int (pot gs k) := fun k hk => by rw [G.all I k hk]; rfl
    refine q_asgL (el_lst ea_nil (by simp)) fun p H2 hp e2 h2 => ?_
    have A3 := A2.mono e2
    refine q_forR1 (n := (N : Int)) (ea_cons (A3.lenN (ev_var rfl) T.cl T.a_own_must) ea_nil) (by omega) (fun i σ' H' => ∃ v4, σ' = [some (.ref L.o), some (.ref a1), some (.ref a2), some (.ref p), v4] ∧ Ex H1 H' ∧ H' p = some (.lst (((List.range i).map fun k => pot gs (k + 1) - pot gs k).map V.int)))
      (fun H3 e3 => ⟨none, rfl, e2.trans e3, e3 _ _ h2⟩) ?_ ?_
    · rintro i σ' H' hi ⟨v4, rfl, eH, hv⟩
      have hi2 : i < N := by omega
      have A4 := A2.mono eH
      have g0 : Ev (tOp (rIxL K) (tVar 1) (tVar 4)) [some (.ref L.o), some (.ref a1), some (.ref a2), some (.ref p), some (.int (i : Int))] H' (.int (pot gs i)) := ev_op (ev_var rfl) (ev_var rfl) (rv_ixL (ex_l eH hg) (by rw [gAt_at (by omega), pa i (by omega)]))
      have g1 : Ev (tOp (rIxL K) (tVar 1) (tOp (rI0 fun i j => .int (i + j)) (tVar 4) (tC (.int 1)))) [some (.ref L.o), some (.ref a1), some (.ref a2), some (.ref p), some (.int (i : Int))] H' (.int (pot gs (i + 1))) := ev_op (ev_var rfl) (ev_is (ev_op (ev_var rfl) ev_c rv_I0) rfl) (rv_ixL (ex_l eH hg) (i := ((i + 1 : Nat) : Int)) (by rw [gAt_at (by omega), pa (i + 1) (by omega)]))
      have mn : Ev (tCB (fun xs H Q => ∃ i j, xs = [.int i, .int j] ∧ Q (.int (if j < i then j else i)) H) (tCons (tOp (rI0 fun i j => .int (i - j)) (tOp (rIxL K) (tVar 1) (tOp (rI0 fun i j => .int (i + j)) (tVar 4) (tC (.int 1)))) (tOp (rIxL K) (tVar 1) (tVar 4))) (tCons (tMeth T.C "greatest_over" (sp_greatest_over K T.C) [] E0 (tVar 0) (tCons (tVar 4) tNil)) tNil))) [some (.ref L.o), some (.ref a1), some (.ref a2), some (.ref p), some (.int (i : Int))] H' (.int (pot gs (i + 1) - pot gs i)) := fun H3 e3 Q' q' =>
        ev_op (r := rI0 fun i j => .int (i - j)) g1 g0 rv_I0 H3 e3 _ fun H4 e4 => ⟨_, rfl, _, _, _, rfl, (A4.mono (e3.trans e4)).ob, rfl, _, rfl, L, N, sp, s, i, rfl, A4.mono (e3.trans e4), fun j hj => (W j hj).2.2, fun g g0' hg' H5 e5 => ⟨_, g, rfl, by
          have := G.clip W KH hi2 g0' hg'
          rw [if_neg (by omega)]
          exact q' H5 (e4.trans e5)⟩⟩
      refine s_app hv (ev_var rfl) mn (by rw [List.length_map, List.length_map, List.length_range]; omega) fun H3 e3 => ⟨_, rfl, Ex.mut (eH.trans e3) hp, ?_⟩
      rw [List.range_succ, List.map_append, List.map_append]
      exact upd_same
    · rintro σ' H' ⟨v4, rfl, eH, hv⟩
      rw [Int.toNat_natCast] at hv
      refine s_ret (v := .ref p) (ev_var rfl) fun H3 e3 => q gs ls G _ _ ((e1.trans eH).trans e3) ⟨p, _, rfl, by rw [new_of (fresh_back e1 hp)]; exact e3 _ _ hv, int_all2 _⟩
end
end BW
/-! The row made. -/
namespace BW
open PySem L2 Evl
local macro_rules | `(tactic| walk_at "at") => `(tactic| first | rfl | assumption | exact atI_nat (by assumption))
local macro_rules | `(tactic| walk_at "rv") => `(tactic| first | exact rv_I0 | exact rv_eq rfl | exact rv_ne rfl | exact rv_isN | exact rv_notN | exact rv_notB | exact rv_ixL (by assumption) (by walk_at "at") | exact rv_ixT (by assumption) (by walk_at "at") | exact rv_I (by omega))
local macro_rules | `(tactic| walk_at "ev") => `(tactic| first | exact ev_c | exact ev_var rfl | assumption | (apply ev_chain; walk_at "ev"; walk_at "ev"; walk_at "rv"; walk_at "ev"; walk_at "rv") | (apply ev_op; walk_at "ev"; walk_at "ev"; walk_at "rv"))
structure BkOk (bk : Bk) : Prop where
  few : bk.length ≤ 8
  lt : ∀ i, i < bk.length → (stt bk i).1 < (stt bk i).2.1
  lo : ∀ i, i < bk.length → 0 - 1000000000000 ≤ (stt bk i).1
  hi : ∀ i, i < bk.length → (stt bk i).2.1 ≤ 1000000000000
  w0 : ∀ i, i < bk.length → 0 ≤ (stt bk i).2.2
  w1 : ∀ i, i < bk.length → (stt bk i).2.2 ≤ 1000000000000
theorem stt_mem {bk : Bk} {i : Nat} (h : i < bk.length) : stt bk i ∈ bk := by
  unfold stt
  rw [List.getD_eq_getElem?_getD, List.getElem?_eq_getElem h]
  exact List.getElem_mem h
theorem mem_stt {bk : Bk} {s : Sp3} (h : s ∈ bk) : ∃ i, i < bk.length ∧ stt bk i = s := by
  obtain ⟨i, hi, e⟩ := List.mem_iff_getElem.mp h
  exact ⟨i, hi, by unfold stt; rw [List.getD_eq_getElem?_getD, List.getElem?_eq_getElem hi]; exact e⟩
theorem BkOk.fit {bk : Bk} {ms : List Int} (B : BkOk bk) (M : IsMs bk ms) : Fit ms bk :=
  ⟨M.inc, fun i hi => (M.mem _).mpr (List.mem_append_left _ (List.mem_map.mpr ⟨_, stt_mem hi, rfl⟩)), fun i hi => (M.mem _).mpr (List.mem_append_right _ (List.mem_map.mpr ⟨_, stt_mem hi, rfl⟩)), B.lt, B.w0⟩
theorem BkOk.range {bk : Bk} {ms : List Int} (B : BkOk bk) (M : IsMs bk ms) : ∀ m ∈ ms, 0 - 10 ^ 12 ≤ m ∧ m ≤ 10 ^ 12 := by
  intro m hm
  rcases List.mem_append.mp ((M.mem m).mp hm) with h | h
  · obtain ⟨s, hs, rfl⟩ := List.mem_map.mp h
    obtain ⟨i, hi, rfl⟩ := mem_stt hs
    have := B.lo i hi
    have := B.hi i hi
    have := B.lt i hi
    omega
  · obtain ⟨s, hs, rfl⟩ := List.mem_map.mp h
    obtain ⟨i, hi, rfl⟩ := mem_stt hs
    have := B.lo i hi
    have := B.hi i hi
    have := B.lt i hi
    omega
theorem zip_paper {ms : List Int} (P : Nat → Int) : ms.dropLast.zip ((List.range (ms.length - 1)).map P) = (List.range (ms.length - 1)).map fun k => (ms.getD k 0, P k) := by
  apply List.ext_getElem
  · rw [List.length_zip, List.length_dropLast, List.length_map, List.length_map, List.length_range, Nat.min_self]
  · intro i h1 h2
    rw [List.length_map, List.length_range] at h2
    rw [List.getElem_zip, List.getElem_map, List.getElem_map, List.getElem_range, List.getElem_dropLast, List.getD_eq_getElem?_getD, List.getElem?_eq_getElem (by omega)]
    rfl
theorem held_start {N : Nat} {sp : List Spn} (W : Wsp N sp) (hi : ∀ i, i < sp.length → (spn sp i).2.2 ≤ 1000000000000) : Held N sp 0 (List.replicate N 0, List.replicate sp.length false) := by
  have i0 : ∀ k, idl (List.replicate N 0, List.replicate sp.length false) k = 0 := fun k => by
    unfold idl
    rw [List.getD_eq_getElem?_getD, List.getElem?_replicate]
    split <;> rfl
  have t0 : ∀ k, tkn (List.replicate N 0, List.replicate sp.length false) k = false := fun k => by
    unfold tkn
    rw [List.getD_eq_getElem?_getD, List.getElem?_replicate]
    split <;> rfl
  refine ⟨List.length_replicate, List.length_replicate, fun k _ => by rw [i0]; exact Int.le_refl _, fun k _ => ?_, fun v => (v : Int) * 1000000000000, ⟨fun k _ => ?_, fun k _ h => ?_, fun i hi' _ => ?_, fun i _ h => ?_⟩, rfl⟩
  · rw [i0]
    unfold loadAt
    rw [S_congr (g := fun _ => 0) fun k _ => if_neg (fun q => by rw [t0] at q; cases q.1), S_const0]
    rfl
  · show (k : Int) * _ ≤ ((k + 1 : Nat) : Int) * _
    omega
  · rw [i0] at h; omega
  · have w := W i hi'
    have h := hi i hi'
    show ((spn sp i).1 : Int) * _ + _ ≤ ((spn sp i).2.1 : Int) * _
    omega
  · rw [t0] at h; cases h
theorem Good.same {N : Nat} {as : List Arc} {gs gs2 : Gs} {ls ls2 : Ls} (G : Good N as gs ls) (G2 : Good N as gs2 ls2) (I : Idle N as) (W : Within N as) {v : Nat} (h : v ≤ N) : pot gs v = pot gs2 v := by
  have a := G.least I (G2.feas I W) G2.zero v h
  have b := G2.least I (G.feas I W) G.zero v h
  omega
section
variable {P : Program} {w : World} {K : Frg} {mg : Str → Option Value} {base : Heap}
section
variable {σ : L2.St} {H H' H2 B : Hp} {te ta : TE} {D : Ends} {tz : TS} {C : Addr} {L : La} {N : Nat} {sp : List Spn} {s s2 : Ln} {G SP : Hp}
theorem ta_1L {xs : List V} {Q : List V → Hp → Prop} (h : EvL te σ H xs) (k : ∀ p H1, H p = none → Ex H H1 → H1 p = some (.lst xs) → Q [.ref p] H1) : tCons te tNil σ H Q := h H (Ex.refl H) _ fun p H1 hp e h1 => k p H1 hp e h1
theorem q_appB {l : Addr} {xs : List V} {R : Hp → V → Prop} (hl : H l = some (.lst xs)) (ha : Ev ta σ H (.ref l)) (h : EvB te σ H B R) (hz : xs.length < 100000) (k : ∀ v H1, Ex H H1 → R (New B H1) v → tz D σ (upd H1 l (.lst (xs ++ [v])))) :
    tSeq (tDrop (tBM K "list" rAppend ta (tCons te tNil))) tz D σ H := ha H (Ex.refl H) _ fun H1 e1 =>
  ⟨Or.inl ⟨rfl, xs, sq_of (e1 l _ hl)⟩, h H1 e1 _ fun v H2 e2 r => ⟨l, xs, v, rfl, rfl, e2 l _ (e1 l _ hl), sz_lt hz, k v H2 (e1.trans e2) r⟩⟩
theorem kept_ex (e : Ex G H') (h4 : G L.l4 = none) (h5 : G L.l5 = none) (k : L.Kept H' H2) : Ex G H2 := fun b o hb =>
  L.kept_at k (fun z => by rw [z, h4] at hb; cases hb) (fun z => by rw [z, h5] at hb; cases hb) (e b o hb)
theorem kept_new {o4 o5 : HO} (h4 : B L.l4 = some o4) (h5 : B L.l5 = some o5) (k : L.Kept H' H2) : Ex (New B H') (New B H2) := fun b o hb => by
  have hn : B b = none := by
    cases q : B b with
    | none => rfl
    | some x => unfold New at hb; rw [q] at hb; simp at hb
  rw [new_of hn] at hb ⊢
  exact L.kept_at k (fun z => by rw [z, h4] at hn; cases hn) (fun z => by rw [z, h5] at hn; cases hn) hb
theorem new_some {b : Addr} {o : HO} (h : New B H b = some o) : B b = none ∧ H b = some o := by
  unfold New at h
  cases q : B b with
  | none => rw [q] at h; exact ⟨rfl, h⟩
  | some x => rw [q] at h; simp at h
theorem LineAt.sep (A : LineAt K C L N sp s (New SP H')) (A2 : LineAt K C L N sp s2 H2) (k : L.Kept H' H2) : LineAt K C L N sp s2 (New SP H2) := by
  obtain ⟨vs, q1, q2⟩ := A.h1
  have n1 := new_some A.ob
  have n2 := new_some q1
  have n3 := new_some A.h2
  have n4 := new_some A.h3
  have n5 := new_some A.h4
  have n6 := new_some A.h5
  refine ⟨by rw [new_of n1.1]; exact A2.ob, ⟨vs, by rw [new_of n2.1]; exact L.kept_at k A.n1.1 A.n1.2 n2.2, q2.mono fun v x => Mono.mono fun b o hb => ?_⟩, by rw [new_of n3.1]; exact A2.h2, by rw [new_of n4.1]; exact A2.h3, by rw [new_of n5.1]; exact A2.h4, by rw [new_of n6.1]; exact A2.h5, A2.li, A2.lt, A2.lN, A2.lS, A2.n45, A2.n1, A2.n2, A2.n3⟩
  obtain ⟨hb1, hb2⟩ := new_some hb
  obtain ⟨hb3, hb4⟩ := new_some hb2
  rw [new_of hb1, new_of hb3]
  have := k b o (by rw [new_of hb1]; exact hb4)
  exact (new_some this).2
end
/-! ### row_of -/
def sp_row_of (K : Frg) : Sp := fun vs H Q _ => ∃ (x : V) (bk : Bk), vs = [x] ∧ rLst K (rStt K) H x bk ∧ BkOk bk ∧ ∀ st pp, RowOk bk st pp → RetN (fun G v => rRow K G v (st, pp)) H Q
theorem ok_row_of (T : Txt K mg) : FnOk P w K mg base CX0 5 T.d_row_of.f T.d_row_of.fd ["book"] (sp_row_of K) := by
  refine T.d_row_of.F.ok sc_row_of (fun vs H Q E h => ?_) (fun cdv A outer s H vs Q E hr h => ?_)
  · obtain ⟨x, bk, rfl, _⟩ := h
    rfl
  · obtain ⟨x, bk, rfl, hx, BO, q⟩ := h
    refine ⟨_, (pss_cons (ps_set (i := 1) sc_row_of.nd rfl (Or.inl rfl) (pe_call (ok_pieces_of T) (hr.mono (by decide)) rfl T.d_pieces_of.m T.d_pieces_of.F.kp T.d_pieces_of.b .nil pass0 (pa_cons (pv 0) pa_nil)))
      (pss_cons (ps_set (i := 2) sc_row_of.nd rfl (Or.inl rfl) (pe_make T.mkL (ok_init T) (hr.mono (by decide)) rfl T.mgL T.m_init.b .nil pass0 (pa_cons (pe_call (ok_spans_of T) (hr.mono (by decide)) rfl T.d_spans_of.m T.d_spans_of.F.kp T.d_spans_of.b .nil pass0 (pa_cons (pv 0) pa_nil)) (pa_cons (pe_lc (own := [("moment", 7)]) (g := gName 7) (tt := tYes) rfl sc_row_of.nd (kPiL K (pv 1)) (blkOk_by (own := [("moment", 7)]) (N := N_row_of) (sc := defScope S_row_of) (by decide +kernel)) (fun _ _ _ _ _ => (pg_name (i := 7) sc_row_of.nd rfl (Or.inl rfl))) (fun _ _ _ _ _ => pts_nil) (fun _ _ _ _ _ => pe_int)) pa_nil))))
      (pss_cons (ps_set (i := 3) sc_row_of.nd rfl (Or.inl rfl) (pe_lst pa_nil))
      (pss_cons (ps_set (i := 4) sc_row_of.nd rfl (Or.inl rfl) (pe_lst pa_nil))
      (pss_cons (ps_for PassesOwn.never rfl (pi_range1 rfl T.n_range (pa_cons (pe_op op_add (pe_ix (kIxT K) (pe_call (ok_crowd_of T) (hr.mono (by decide)) rfl T.d_crowd_of.m T.d_crowd_of.F.kp T.d_crowd_of.b .nil pass0 (pa_cons (pv 0) (pa_cons (pe_listRg rfl rfl T.n_list (prg_1 rfl T.n_range (pe_callB (kLen K) rfl T.n_len (by decide +kernel) (pa_cons (pv 0) pa_nil)))) pa_nil))) pe_int (fun _ _ => rfl)) pe_int) pa_nil)) (pg_name (i := 5) sc_row_of.nd rfl (Or.inl rfl))
      (pss_cons (ps_set (i := 6) sc_row_of.nd rfl (Or.inl rfl) (pe_meth0 (pv 2) T.cl T.m_taken_now.M (ok_taken_now T) (hr.mono (by decide)) T.m_taken_now.b .nil pass0))
      (pss_cons (ps_expr (kBM K (pe_bm PySem.F.plainAttrs_list PySem.F.slot_list_append PySem.F.type_list_append mt_append (pv 3) (pa_cons (pe_tup (pa_cons (pe_call (ok_worth_of T) (hr.mono (by decide)) rfl T.d_worth_of.m T.d_worth_of.F.kp T.d_worth_of.b .nil pass0 (pa_cons (pv 0) (pa_cons (pv 6) pa_nil))) (pa_cons (pv 6) pa_nil))) pa_nil))))
      (pss_cons (ps_expr (kBM K (pe_bm PySem.F.plainAttrs_list PySem.F.slot_list_append PySem.F.type_list_append mt_append (pv 4) (pa_cons (pe_call (ok_paper_of T) (hr.mono (by decide)) rfl T.d_paper_of.m T.d_paper_of.F.kp T.d_paper_of.b .nil pass0 (pa_cons (pv 1) (pa_cons (pe_meth0 (pv 2) T.cl T.m_prices_now.M (ok_prices_now T) (hr.mono (by decide)) T.m_prices_now.b .nil pass0) pa_nil))) pa_nil))))
      (pss_one (ps_expr (pe_meth0 (pv 2) T.cl T.m_send_unit.M (ok_send_unit T) (hr.mono (by decide)) T.m_send_unit.b .nil pass0)))))))
      (pss_one (ps_ret (pe_tup (pa_cons pe_str (pa_cons (pv 3) (pa_cons (pv 4) pa_nil))))))))))), ?_⟩
    have few := BO.few
    refine ⟨_, rfl, x, bk, rfl, hx, by omega, fun ms hms hml v1 H1 e1 r1 => ?_⟩
    have r1' : rTL rInt H1 v1 ms.dropLast := Mono.mono (R := rTL rInt) new_ex r1
    refine ⟨_, rfl, x, bk, rfl, Mono.mono e1 hx, by omega, fun ms2 hms2 _ v2 H2 e2 r2 => ?_⟩
    obtain rfl := hms.uniq hms2
    have F := BO.fit hms
    have W := F.wsp
    have rg := BO.range hms
    have sl := spansOf_len ms bk
    have wl : ∀ i, i < (spansOf ms bk).length → (spn (spansOf ms bk) i).2.2 ≤ 1000000000000 := fun i hi => by
      rw [sl] at hi
      rw [spn_of hi]
      exact BO.w1 i hi
    have hm2 : rLst K rInt H2 v1 ms.dropLast := Mono.mono e2 r1'.lst
    have zer := el_lcU (K := K) (R := rInt) (H := H2) (σ := [some x, some v1, none, none, none, none, none, none]) (vs := [7]) (tl := tVar 1) (t := tYes) (te := tC (.int 0)) (g := gName 7) (fun _ : Int => true) (fun _ => .int 0) (ev_var rfl) hm2 (by rw [List.length_dropLast]; omega) (fun v a ha hv => ⟨_, tg_name, rfl, fun H1 _ => et_yes, fun H1 _ _ => ev_c⟩)
    rw [filter_true, map_const, List.length_dropLast] at zer
    refine ta_1L zer fun p0 H3 hp0 e3 h3 => ?_
    intro px dx hpx hdx ndx
    have eM : Ex H3 (New (one px) (upd (upd H3 dx (.own px)) px (.ins T.C dx []))) := fun b o hb => by
      have nb : b ≠ px := fun z => by rw [z, hpx] at hb; cases hb
      have nb2 : b ≠ dx := fun z => by rw [z, hdx] at hb; cases hb
      rw [new_of (one_ne nb), upd_ne nb, upd_ne nb2]
      exact hb
    have r2' : rTL (rSpn K) H3 v2 (spansOf ms bk) := Mono.mono (R := rTL (rSpn K)) (new_ex.trans e3) r2
    have z0 : rLst K rInt H3 (.ref p0) (List.replicate (ms.length - 1) 0) := rLst_int.mpr ⟨p0, rfl, sq_of (by rw [List.map_replicate]; exact h3)⟩
    refine ⟨px, T.C, dx, v2, .ref p0, spansOf ms bk, List.replicate (ms.length - 1) 0, rfl, upd_same, T.cl, ⟨T.a_own_spans, T.a_own_must, T.a_filled, T.a_idle, T.a_taken, T.a_great⟩, Mono.mono eM r2'.lst, Mono.mono eM z0, fun m hm => List.eq_of_mem_replicate hm, by omega, by rw [List.length_replicate]; omega, fun L H4 eo A z4 z5 e4 => ⟨rfl, ?_⟩⟩
    rw [List.length_replicate] at A
    have E34 : Ex H3 H4 := eM.trans (e4.trans new_ex)
    have n4 : L.l4 ≠ px := fun z => by rw [z, upd_same] at z4; cases z4
    have n5 : L.l5 ≠ px := fun z => by rw [z, upd_same] at z5; cases z5
    have y4 : H3 L.l4 = none := by
      rw [upd_ne n4] at z4
      have : L.l4 ≠ dx := fun z => by rw [z, upd_same] at z4; cases z4
      rwa [upd_ne this] at z4
    have y5 : H3 L.l5 = none := by
      rw [upd_ne n5] at z5
      have : L.l5 ≠ dx := fun z => by rw [z, upd_same] at z5; cases z5
      rwa [upd_ne this] at z5
    clear z4 z5 n4 n5 e4 eM zer hpx hdx
    subst eo
    -- steps, papers
    refine q_asgL (el_lst ea_nil (by simp)) fun ps H5 hps e5 h5 => ?_
    refine q_asgL (el_lst ea_nil (by simp)) fun pq H6 hpq e6 h6 => ?_
    have A6 := A.mono (e5.trans e6)
    have E36 := E34.trans (e5.trans e6)
    have x3s : H3 ps = none := fresh_back E34 hps
    have x3q : H3 pq = none := fresh_back (E34.trans e5) hpq
    have nsq : ps ≠ pq := fun z => by rw [← z, h5] at hpq; cases hpq
    have n4s : L.l4 ≠ ps := fun z => by rw [← z, A.h4] at hps; cases hps
    have n5s : L.l5 ≠ ps := fun z => by rw [← z, A.h5] at hps; cases hps
    have n4q : L.l4 ≠ pq := fun z => by rw [← z, e5 _ _ A.h4] at hpq; cases hpq
    have n5q : L.l5 ≠ pq := fun z => by rw [← z, e5 _ _ A.h5] at hpq; cases hpq
    generalize hSP : upd (upd (fun _ => none) ps (.lst [])) pq (.lst []) = SP
    have sps : SP ps = some (.lst []) := by rw [← hSP, upd_ne nsq, upd_same]
    have spq : SP pq = some (.lst []) := by rw [← hSP, upd_same]
    have spn0 : ∀ b, b ≠ ps → b ≠ pq → SP b = none := fun b b1 b2 => by rw [← hSP, upd_ne b2, upd_ne b1]
    generalize hBM : upd (upd (upd (upd H3 L.l4 (.lst [])) L.l5 (.lst [])) ps (.lst [])) pq (.lst []) = BM
    have b4 : BM L.l4 = some (.lst []) := by rw [← hBM, upd_ne n4q, upd_ne n4s, upd_ne A.n45, upd_same]
    have b5 : BM L.l5 = some (.lst []) := by rw [← hBM, upd_ne n5q, upd_ne n5s, upd_same]
    have bs : BM ps = some (.lst []) := by rw [← hBM, upd_ne nsq, upd_same]
    have bq : BM pq = some (.lst []) := by rw [← hBM, upd_same]
    have bm0 : ∀ b, BM b = none → H b = none := fun b hb => by
      refine fresh_back ((e1.trans e2).trans e3) ?_
      rw [← hBM] at hb
      have k1 : b ≠ pq := fun z => by rw [z, upd_same] at hb; cases hb
      rw [upd_ne k1] at hb
      have k2 : b ≠ ps := fun z => by rw [z, upd_same] at hb; cases hb
      rw [upd_ne k2] at hb
      have k3 : b ≠ L.l5 := fun z => by rw [z, upd_same] at hb; cases hb
      rw [upd_ne k3] at hb
      have k4 : b ≠ L.l4 := fun z => by rw [z, upd_same] at hb; cases hb
      rwa [upd_ne k4] at hb
    have subB : ∀ {G : Hp} {o4 o5 os oq : HO}, Ex H3 G → G L.l4 = some o4 → G L.l5 = some o5 → G ps = some os → G pq = some oq → Sub BM G := fun e g4 g5 gs gq => by
      rw [← hBM]
      exact Sub.upd (Sub.upd (Sub.upd (Sub.upd (Sub.of e) g4) g5) gs) gq
    have AS : LineAt K T.C L (ms.length - 1) (spansOf ms bk) (List.replicate (ms.length - 1) 0, List.replicate (spansOf ms bk).length false) (New SP H6) := A.mono fun b o hb => by
      have c1 : b ≠ ps := fun z => by rw [z, hps] at hb; cases hb
      have c2 : b ≠ pq := fun z => by rw [z] at hb; rw [e5 _ _ hb] at hpq; cases hpq
      rw [new_of (spn0 b c1 c2)]
      exact e6 _ _ (e5 _ _ hb)
    have HS := held_start W wl
    have x6 : rLst K (rStt K) H3 x bk := Mono.mono ((e1.trans e2).trans e3) hx
    have m6 : rLst K rInt H3 v1 ms.dropLast := Mono.mono e3 hm2
    clear hSP hBM A6
    have cr8 : crowd bk (List.range bk.length) ≤ 8 := crowd_le.mpr fun i _ => by
      unfold load
      have h1 := List.length_filter_le (fun i_1 => over (stt bk i_1) (stt bk i).1) (List.range bk.length)
      rw [List.length_range] at h1
      omega
    refine q_forR1 (n := ((crowd bk (List.range bk.length) + 1 : Nat) : Int)) (ea_cons (ev_is (ev_op (ev_crowdAll (Mono.mono E36 x6) (by omega) (ev_var rfl)) ev_c rv_I0) rfl) ea_nil) (by omega)
      (fun j σ' H' => ∃ (v5 v6 : Option V) (s : Ln) (st : Steps) (pp : List Paper) (ss qq : List V), σ' = [some x, some v1, some (.ref L.o), some (.ref ps), some (.ref pq), v5, v6, none] ∧ Ex H3 H' ∧ LineAt K T.C L (ms.length - 1) (spansOf ms bk) s (New SP H') ∧ Held (ms.length - 1) (spansOf ms bk) (j : Int) s ∧ RowPart bk j st pp (wt (spansOf ms bk) s) ∧
        H' ps = some (.lst ss) ∧ All2 (rStep K (New BM H')) ss st ∧ H' pq = some (.lst qq) ∧ All2 (rLst K (rII K) (New BM H')) qq pp ∧ ∀ i, j = i + 1 → ∃ p : Nat → Int, pp.getD i [] = (paperF ms fun k => p (k + 1) - p k) ∧ (∀ k, k < ms.length - 1 → p k ≤ p (k + 1)) ∧ p 0 = 0 ∧ wt (spansOf ms bk) s = stepW st i + p (ms.length - 1))
      (fun H7 e7 => ⟨none, none, _, [], [], [], [], rfl, E36.trans e7, AS.mono (new_mono e7), HS, ⟨rfl, rfl, (fun k hk => by omega), (fun k hk => by omega), (fun k hk => by omega), (fun k hk => by omega), fun k hk => by omega⟩, e7 _ _ (e6 _ _ h5), All2.nil, e7 _ _ h6, All2.nil, fun i hi => by omega⟩) ?_ ?_
    · rintro j σ' H' hj ⟨v5, v6, s, st, pp, ss, qq, rfl, eH, AL, KH, RP, hss, aS, hqq, aQ, _⟩
      have AL0 := AL.mono new_ex
      have I := idle_arcs (sp := spansOf ms bk) AL.li
      have WN := within_arcs (sp := spansOf ms bk) AL.li W
      have hn := AL.n45
      have ssl : ss.length = j := by rw [aS.1]; exact RP.sl
      have qql : qq.length = j := by rw [aQ.1]; exact RP.pl
      have clen : (chosen bk.length s).length ≤ 8 := by
        unfold chosen
        have := List.length_filter_le (fun i => tkn s i) (List.range bk.length)
        rw [List.length_range] at this
        omega
      have sB := subB eH AL0.h4 AL0.h5 hss hqq
      have tn := spn_taken_now (K := K) AL0
      rw [sl] at tn
      refine c_asg (evb_meth (S := rTL rNat) sB (ev_var rfl) AL0.ob rfl ea_nil tn) fun c H7 e7 rc => ?_
      have eH7 := eH.trans e7
      have c7 : rLst K rNat H7 c (chosen bk.length s) := Mono.mono new_ex rc.lst
      have wv := spv_worth_of (Mono.mono eH7 x6) c7 (chosen_rising bk.length s).2 (by omega)
      refine q_appU (e7 _ _ hss) (ev_var rfl) (eu_tup (ea_cons (ev_call (ea_cons (ev_var rfl) (ea_cons (ev_var rfl) ea_nil)) wv) (ea_cons (ev_var rfl) ea_nil)) (by simp)) (by omega) fun t H8 ht e8 h8 => ?_
      have eH8 := eH7.trans e8
      -- after the step
      have s9 : upd H8 ps (.lst (ss ++ [.ref t])) ps = some (.lst (ss ++ [.ref t])) := upd_same
      have q9 : upd H8 ps (.lst (ss ++ [.ref t])) pq = some (.lst qq) := by rw [upd_ne (Ne.symm nsq)]; exact e8 _ _ (e7 _ _ hqq)
      have E39 : Ex H3 (upd H8 ps (.lst (ss ++ [.ref t]))) := Ex.mut eH8 x3s
      have N9 : New BM (upd H8 ps (.lst (ss ++ [.ref t]))) = New BM H8 := new_mut bs
      have AL9 : LineAt K T.C L (ms.length - 1) (spansOf ms bk) s (New SP (upd H8 ps (.lst (ss ++ [.ref t])))) := by
        rw [new_mut sps]
        exact AL.mono (new_mono (e7.trans e8))
      have tB : BM t = none := sB.ex e7 _ ht
      have aS9 : All2 (rStep K (New BM (upd H8 ps (.lst (ss ++ [.ref t]))))) (ss ++ [.ref t]) (st ++ [(worth bk (chosen bk.length s), chosen bk.length s)]) := by
        rw [N9]
        exact (aS.mono fun _ _ => Mono.mono (new_mono (e7.trans e8))).snoc ⟨t, c, rfl, st_of (by rw [new_of tB]; exact h8), Mono.mono (new_mono e8) rc.lst⟩
      have aQ9 : All2 (rLst K (rII K) (New BM (upd H8 ps (.lst (ss ++ [.ref t]))))) qq pp := by
        rw [N9]
        exact aQ.mono fun _ _ => Mono.mono (new_mono (e7.trans e8))
      generalize upd H8 ps (.lst (ss ++ [.ref t])) = H9 at s9 q9 E39 AL9 aS9 aQ9 ⊢
      have AL90 := AL9.mono new_ex
      have sB9 := subB E39 AL90.h4 AL90.h5 s9 q9
      -- the paper
      have pap : EvB (tCall (sp_paper_of K) [] E0 (tCons (tVar 1) (tCons (tMeth T.C "prices_now" (sp_prices_now K T.C) [] E0 (tVar 2) tNil) tNil))) [some x, some v1, some (.ref L.o), some (.ref ps), some (.ref pq), some (.int (j : Int)), some c, none] H9 BM
          (fun G y => ∃ gs ls, Good (ms.length - 1) (arcsOf (spansOf ms bk) s) gs ls ∧ rLst K (rII K) G y (paperF ms fun k => pot gs (k + 1) - pot gs k)) := fun H10 e10 Q' q' =>
        ⟨_, rfl, _, rfl, _, _, _, rfl, (AL90.mono e10).ob, rfl, L, ms.length - 1, spansOf ms bk, s, (j : Int), rfl, AL90.mono e10, KH, W, fun gs ls G v H11 e11 r11 =>
          ⟨v1, v, ms.dropLast, _, rfl, Mono.mono ((E39.trans e10).trans e11) m6, (Mono.mono (R := rTL rInt) new_ex r11 : rTL rInt H11 v _).lst, by rw [List.length_dropLast, List.length_map, List.length_range], by rw [List.length_dropLast]; omega, fun y H12 e12 r12 => by
            refine q' y H12 (e11.trans e12) ⟨gs, ls, G, ?_⟩
            rw [zip_paper] at r12
            exact (Mono.mono (R := rTL (rII K)) (new_call ((sB9.ex e10).ex e11)) r12 : rTL (rII K) (New BM H12) y _).lst⟩⟩
      refine q_appB q9 (ev_var rfl) pap (by omega) fun y H10 e10 ⟨gs, ls, G, ry⟩ => ?_
      have s11 : upd H10 pq (.lst (qq ++ [y])) ps = some (.lst (ss ++ [.ref t])) := by rw [upd_ne nsq]; exact e10 _ _ s9
      have q11 : upd H10 pq (.lst (qq ++ [y])) pq = some (.lst (qq ++ [y])) := upd_same
      have E311 : Ex H3 (upd H10 pq (.lst (qq ++ [y]))) := Ex.mut (E39.trans e10) x3q
      have AL11 : LineAt K T.C L (ms.length - 1) (spansOf ms bk) s (New SP (upd H10 pq (.lst (qq ++ [y])))) := by
        rw [new_mut spq]
        exact AL9.mono (new_mono e10)
      have aS11 : All2 (rStep K (New BM (upd H10 pq (.lst (qq ++ [y]))))) (ss ++ [.ref t]) (st ++ [(worth bk (chosen bk.length s), chosen bk.length s)]) := by
        rw [new_mut bq]
        exact aS9.mono fun _ _ => Mono.mono (new_mono e10)
      have aQ11 : All2 (rLst K (rII K) (New BM (upd H10 pq (.lst (qq ++ [y]))))) (qq ++ [y]) (pp ++ [paperF ms fun k => pot gs (k + 1) - pot gs k]) := by
        rw [new_mut bq]
        exact (aQ9.mono fun _ _ => Mono.mono (new_mono e10)).snoc ry
      generalize upd H10 pq (.lst (qq ++ [y])) = H11 at s11 q11 E311 AL11 aS11 aQ11 ⊢
      have AL110 := AL11.mono new_ex
      refine ⟨_, rfl, _, _, _, rfl, AL110.ob, rfl, L, ms.length - 1, spansOf ms bk, s, (j : Int), rfl, AL110, KH, W, fun gs2 ls2 m G2 r2 H12 A12 k12 => ?_⟩
      obtain ⟨KH2, wt2⟩ := Held.sent W KH G2 r2
      have same : pot gs2 (ms.length - 1) = pot gs (ms.length - 1) := G2.same G I WN (Nat.le_refl _)
      have PP := (pot_feas AL.li).mpr (G.feas I WN)
      have cl : ∀ B : Int, claim bk B (paperF ms fun k => pot gs (k + 1) - pot gs k) = _ := fun B => claim_paper F PP.up G.zero B
      have hc := Held.claims W KH PP G.zero
      have c0 : claim bk (j : Int) (paperF ms fun k => pot gs (k + 1) - pot gs k) = wt (spansOf ms bk) s := by rw [cl, hc]
      have c1 : claim bk ((j : Int) + 1) (paperF ms fun k => pot gs (k + 1) - pot gs k) = wt (spansOf ms bk) (back ls2 m (ms.length - 1) s) := by
        rw [cl, Int.add_mul, wt2, same, ← hc]
        omega
      have pok : PaperOk (paperF ms fun k => pot gs (k + 1) - pot gs k) := paperF_ok hms.inc (by omega) rg fun k hk => by
        have := G.clip W KH hk (g := 1000000000000) (by omega) (fun i hi _ => wl i hi)
        show _ ≤ _
        omega
      have stok : StepOk bk j (worth bk (chosen bk.length s), chosen bk.length s) := ⟨chosen_rising _ _, crowd_chosen F KH, rfl⟩
      have RP2 := RP.turn stok (worth_chosen s) pok c0 c1
      refine ⟨_, _, back ls2 m (ms.length - 1) s, _, _, _, _, rfl, kept_ex E311 y4 y5 k12, AL11.sep A12 k12, KH2, RP2, L.kept_at k12 (Ne.symm n4s) (Ne.symm n5s) s11, aS11.mono fun _ _ => Mono.mono (kept_new b4 b5 k12), L.kept_at k12 (Ne.symm n4q) (Ne.symm n5q) q11, aQ11.mono fun _ _ => Mono.mono (kept_new b4 b5 k12), fun i hi => ?_⟩
      have hij : i = j := by omega
      subst hij
      refine ⟨pot gs, ?_, PP.up, G.zero, ?_⟩
      · rw [← RP.pl]
        exact getD_app_eq
      · rw [wt2, same]
        congr 1
        unfold stepW
        rw [← RP.sl, getD_app_eq]
        exact (worth_chosen s).symm
    · rintro σ' H' ⟨v5, v6, s, st, pp, ss, qq, rfl, eH, AL, KH, RP, hss, aS, hqq, aQ, lst⟩
      rw [Int.toNat_natCast] at KH RP lst
      obtain ⟨p, hp1, hp2, hp3, hp4⟩ := lst _ rfl
      have OK := RP.full F hp1 hp2 hp3 hp4
      have EH' : Ex H H' := ((e1.trans e2).trans e3).trans eH
      refine s_retU (eu_tup (ea_cons ev_c (ea_cons (ev_var rfl) (ea_cons (ev_var rfl) ea_nil))) (by simp)) fun t H7 ht e7 h7 => ?_
      have hps0 : H ps = none := fresh_back ((e1.trans e2).trans e3) x3s
      have hpq0 : H pq = none := fresh_back ((e1.trans e2).trans e3) x3q
      have nb : Ex (New BM H') (New H H7) := (new_mono e7).trans (new_base bm0)
      exact q st pp OK _ H7 (EH'.trans e7) ⟨t, _, _, rfl, st_of (by rw [new_of (fresh_back EH' ht)]; exact h7), ⟨ps, ss, rfl, sq_of (by rw [new_of hps0]; exact e7 _ _ hss), aS.mono fun _ _ => Mono.mono nb⟩, ⟨pq, qq, rfl, sq_of (by rw [new_of hpq0]; exact e7 _ _ hqq), aQ.mono fun _ _ => Mono.mono nb⟩⟩
end
end BW
/-! The law's own defs: the state that gives numbers, the book drawn. -/
namespace BW
open PySem L2 Evl
local macro_rules | `(tactic| walk_at "at") => `(tactic| first | rfl | assumption | exact atI_nat (by assumption))
local macro_rules | `(tactic| walk_at "rv") => `(tactic| first | exact rv_I0 | exact rv_eq rfl | exact rv_ne rfl | exact rv_isN | exact rv_notN | exact rv_notB | exact rv_ixL (by assumption) (by walk_at "at") | exact rv_ixT (by assumption) (by walk_at "at") | exact rv_I (by omega))
local macro_rules | `(tactic| walk_at "ev") => `(tactic| first | exact ev_c | exact ev_var rfl | assumption | (apply ev_chain; walk_at "ev"; walk_at "ev"; walk_at "rv"; walk_at "ev"; walk_at "rv") | (apply ev_op; walk_at "ev"; walk_at "ev"; walk_at "rv"))
/-! ### the state -/
def StAt (a : Addr) (H : Hp) : Prop := ∃ n sd c : Int, H a = some (.lst [.int n, .int sd, .int c]) ∧ 0 ≤ sd ∧ sd < 2147483647
def KeptS (a : Addr) (H H' : Hp) : Prop := Ex (New (one a) H) (New (one a) H')
theorem StAt.mono {a : Addr} {H H' : Hp} (h : StAt a H) (e : Ex H H') : StAt a H' := by
  obtain ⟨n, sd, c, h1, h2⟩ := h
  exact ⟨n, sd, c, e _ _ h1, h2⟩
theorem KeptS.of {a : Addr} {H H' : Hp} (e : Ex H H') : KeptS a H H' := new_mono e
theorem KeptS.refl (a : Addr) (H : Hp) : KeptS a H H := Ex.refl _
theorem KeptS.trans {a : Addr} {H H1 H2 : Hp} (x : KeptS a H H1) (y : KeptS a H1 H2) : KeptS a H H2 := Ex.trans x y
theorem KeptS.mut {a : Addr} {H H' : Hp} {o : HO} (e : KeptS a H H') : KeptS a H (upd H' a o) := by
  unfold KeptS
  rw [one_mut]
  exact e
/-- what holds without the state holds -/
theorem kept_base {a : Addr} {G H H' : Hp} (h0 : G a = none) (e : Ex G H) (k : KeptS a H H') : Ex G H' := fun b o hb =>
  one_at k (fun z => by rw [z, h0] at hb; cases hb) (e b o hb)
theorem keptN {a : Addr} {B H H' : Hp} {o : HO} (h : B a = some o) (k : KeptS a H H') : Ex (New B H) (New B H') := fun b u hb => by
  obtain ⟨h1, h2⟩ := new_some hb
  rw [new_of h1]
  exact one_at k (fun z => by rw [z, h] at h1; cases h1) h2
/-- what a reading leads to: a number, the state another -/
def EvS (te : TE) (σ : L2.St) (a : Addr) (H : Hp) (P : Int → Prop) : Prop := ∀ H1, KeptS a H H1 → StAt a H1 → ∀ Q : VK, (∀ r H2, P r → StAt a H2 → KeptS a H1 H2 → Q (.int r) H2) → te σ H1 Q
section
variable {K : Frg} {σ : L2.St} {a : Addr} {H H' : Hp} {te ta tb tl : TE} {P P' P'' : Int → Prop} {D : Ends} {tz tu : TS}
theorem EvS.mono (k : KeptS a H H') (h : EvS te σ a H P) : EvS te σ a H' P := fun H1 x s Q q => h H1 (k.trans x) s Q q
theorem evs_ev {i : Int} (h : Ev te σ (New (one a) H) (.int i)) (p : P i) : EvS te σ a H P := fun H1 k s Q q => h H1 (Ex.trans k new_ex) _ fun H2 e2 => q i H2 p (s.mono e2) (KeptS.of e2)
theorem evs_op {f : Int → Int → Int} (ha : EvS ta σ a H P) (hb : EvS tb σ a H P') (h : ∀ i j, P i → P' j → P'' (f i j)) : EvS (tOp (rI0 fun i j => .int (f i j)) ta tb) σ a H P'' := fun H1 k s Q q =>
  ha H1 k s _ fun i H2 p2 s2 k2 => hb H2 (k.trans k2) s2 _ fun j H3 p3 s3 k3 => ⟨i, j, rfl, rfl, q _ H3 (h i j p2 p3) s3 (k2.trans k3)⟩
theorem evs_pick {xs : List Int} (hl : EvL tl σ (New (one a) H) (xs.map V.int)) (hb : EvS tb σ a H fun r => 0 ≤ r ∧ r < xs.length) : EvS (tOp (rIxL K) tl tb) σ a H fun v => v ∈ xs := fun H1 k s Q q =>
  hl H1 (Ex.trans k new_ex) _ fun p H2 hp e2 h2 => hb H2 (k.trans (KeptS.of e2)) (s.mono e2) _ fun r H3 pr s3 k3 => by
    have np : p ≠ a := fun z => by
      obtain ⟨n, sd, c, h1, _⟩ := s
      rw [z, h1] at hp
      cases hp
    obtain ⟨j, rfl⟩ := Int.eq_ofNat_of_zero_le pr.1
    have hj : j < xs.length := by omega
    exact ⟨p, xs.map V.int, (j : Int), .int xs[j], rfl, rfl, sq_of (one_at k3 np h2), atI_nat (by rw [List.getElem?_map, List.getElem?_eq_getElem hj]; rfl), q _ H3 (List.getElem_mem hj) s3 ((KeptS.of e2).trans k3)⟩
theorem c_asgS {i : Nat} (h : EvS te σ a H P) (s : StAt a H) (k : ∀ r H1, P r → StAt a H1 → KeptS a H H1 → tz D (σ.set i (some (.int r))) H1) : tSeq (tAsg te (gName i)) tz D σ H := h H (KeptS.refl a H) s _ fun r H1 p s1 k1 => k r H1 p s1 k1
theorem q_forS {j : Nat} (h : EvS te σ a H P) (s : StAt a H) (hP : ∀ r, P r → 0 ≤ r ∧ r ≤ 100000) (Pv : Int → Nat → L2.St → Hp → Prop) (h0 : ∀ n H1, P n → StAt a H1 → KeptS a H H1 → Pv n 0 σ H1)
    (hs : ∀ n (i : Nat) σ' H', P n → (i : Int) < n → Pv n i σ' H' → tu { D with nx := Pv n (i + 1), ct := Pv n (i + 1), bk := tz D } (σ'.set j (some (.int (i : Int)))) H') (hd : ∀ n σ' H', P n → Pv n n.toNat σ' H' → tz D σ' H') : tSeq (tFor (iRng1 (tCons te tNil)) (gName j) tu) tz D σ H :=
  h H (KeptS.refl a H) s _ fun n H1 p1 s1 k1 => ⟨n, rfl, by have := hP n p1; omega, by have := hP n p1; omega, for_range (lo := 0) (n := n.toNat) (D := { D with nx := tz D }) (Pv n) (h0 n H1 p1 s1 k1) (fun i σ' H' hi p => by
    have e0 : (0 : Int) + (i : Int) = (i : Int) := Int.zero_add _
    show tu { D with nx := Pv n (i + 1), ct := Pv n (i + 1), bk := tz D } (σ'.set j (some (.int ((0 : Int) + (i : Int))))) H'
    rw [e0]
    exact hs n i σ' H' p1 (by omega) p) (hd n · · p1)⟩
end
section
variable {P : Program} {w : World} {K : Frg} {mg : Str → Option Value} {base : Heap}
/-! ### _law_begun -/
def sp_law_begun (K : Frg) : Sp := fun vs H Q _ => ∃ (x : V) (ns : List Int) (k : Nat), vs = [x, .int (k : Int)] ∧ rLst K rInt H x ns ∧ k ≤ 100 ∧ ∀ p H2, H p = none → Ex H H2 → StAt p H2 → Q (.ref p) H2
theorem ok_law_begun (T : Txt K mg) : FnOk P w K mg base CX0 1 T.d_law_begun.f T.d_law_begun.fd ["_law_script", "_law_k"] (sp_law_begun K) := by
  refine T.d_law_begun.F.ok sc_law_begun (fun vs H Q E h => ?_) (fun cdv A outer s H vs Q E hr h => ?_)
  · obtain ⟨x, ns, k, rfl, _⟩ := h
    rfl
  · obtain ⟨x, ns, k, rfl, hx, hk, q⟩ := h
    refine ⟨_, (pss_cons (ps_set (i := 2) sc_law_begun.nd rfl (Or.inl rfl) pe_int)
      (pss_cons (ps_if (pt_cmpR op_lt (pv 1) (pe_callB (kLen K) rfl T.n_len (by decide +kernel) (pa_cons (pv 0) pa_nil)) (nomark _)) (pss_one (ps_set (i := 2) sc_law_begun.nd rfl (Or.inl rfl) (pe_ix (kIxL K) (pv 0) (pv 1) (fun _ _ => rfl)))) pss_nil)
      (pss_cons (ps_set (i := 3) sc_law_begun.nd rfl (Or.inl rfl) (pe_callB (call_max2 rfl) rfl T.n_max (by decide +kernel) (pa_cons (pv 2) (pa_cons (pe_op op_sub (pe_un un_neg pe_int) (pv 2)) pa_nil))))
      (pss_cons (ps_set (i := 4) sc_law_begun.nd rfl (Or.inl rfl) (pe_op op_mod (pe_op op_add (pe_op op_add (pv 3) (pe_op op_mul (pe_op op_mul pe_int (pv 1)) (pv 1))) pe_int) pe_int))
      (pss_cons (ps_if (pt_cmpR op_lt (pv 3) (pe_op op_pow pe_int pe_int) (nomark _)) (pss_one (ps_set (i := 3) sc_law_begun.nd rfl (Or.inl rfl) pe_int)) pss_nil)
      (pss_one (ps_ret (pe_lst (pa_cons (pv 3) (pa_cons (pv 4) (pa_cons pe_int pa_nil))))))))))), ?_⟩
    obtain ⟨l, rfl, hl⟩ := rLst_int.mp hx
    refine q_asg (v := .int 0) ev_c fun H1 e1 => ?_
    have fin : ∀ (c : Int) (H2 : Hp), Ex H H2 → tSeq (tAsg (tCB (fun xs H Q => ∃ i j, xs = [.int i, .int j] ∧ Q (.int (if j > i then j else i)) H) (tCons (tVar 2) (tCons (tOp (rI0 fun i j => .int (i - j)) (tUn (rU fun i => .int (-i)) (tC (.int 1))) (tVar 2)) tNil))) (gName 3))
        (tSeq (tAsg (tOp (rI (fun _ j => 0 < j) fun i j => .int (i % j)) (tOp (rI0 fun i j => .int (i + j)) (tOp (rI0 fun i j => .int (i + j)) (tVar 3) (tOp (rI CMul fun i j => .int (i * j)) (tOp (rI CMul fun i j => .int (i * j)) (tC (.int 104729)) (tVar 1)) (tVar 1))) (tC (.int 7))) (tC (.int 2147483647))) (gName 4))
        (tSeq (tIfS (tTest (tOp (rI0 fun i j => .bl (decide (i < j))) (tVar 3) (tOp (rI CPow fun i j => .int (i ^ j.toNat)) (tC (.int 10)) (tC (.int 18))))) (tAsg (tC (.int 0)) (gName 3)) tNext)
        (tRet (tLst (tCons (tVar 3) (tCons (tVar 4) (tCons (tC (.int 0)) tNil))))))) { nx := fun _ H' => Q .non H', rt := Q } [some (.ref l), some (.int (k : Int)), some (.int c), none, none] H2 := by
      intro c H2 e2
      refine q_asg (ev_cb (ea_cons (ev_var rfl) (ea_cons (ev_op (ev_un ev_c ru_neg) (ev_var rfl) rv_I0) ea_nil)) rc_max2) fun H3 e3 => ?_
      refine q_asg (ev_op (ev_op (ev_op (ev_var rfl) (ev_op (ev_op ev_c (ev_var rfl) (rv_I (by unfold CMul; omega))) (ev_var rfl) (rv_I (by unfold CMul; omega))) rv_I0) ev_c rv_I0) ev_c (rv_I (by omega))) fun H4 e4 => ?_
      have e14 := (e2.trans e3).trans e4
      have last : ∀ (n : Int) (H5 : Hp), Ex H4 H5 → tRet (tLst (tCons (tVar 3) (tCons (tVar 4) (tCons (tC (.int 0)) tNil)))) { nx := fun _ H' => Q .non H', rt := Q } [some (.ref l), some (.int (k : Int)), some (.int c), some (.int n), some (.int (((if (-1 : Int) - c > c then (-1 : Int) - c else c) + 104729 * (k : Int) * (k : Int) + 7) % 2147483647))] H5 := by
        intro n H5 e5
        refine s_retL (el_lst (ea_cons (ev_var rfl) (ea_cons (ev_var rfl) (ea_cons ev_c ea_nil))) (by simp)) fun p H6 hp e6 h6 => ?_
        exact q p H6 (fresh_back (e14.trans e5) hp) ((e14.trans e5).trans e6) ⟨_, _, _, h6, Int.emod_nonneg _ (by decide), Int.emod_lt_of_pos _ (by decide)⟩
      refine q_when (b := decide (_ < _)) (et_test (ev_op (ev_var rfl) (ev_op ev_c ev_c (rv_I (by unfold CPow; decide))) rv_I0)) (fun _ H5 e5 => ?_) fun _ H5 e5 => last _ H5 e5
      exact s_asg (v := .int 0) ev_c fun H6 e6 => last 0 H6 (e5.trans e6)
    refine q_when (b := decide ((k : Int) < (ns.length : Int))) (et_test (ev_op (ev_var rfl) (lst_len (R := rInt) (Mono.mono e1 hx) (ev_var rfl)) rv_I0)) (fun hb H2 e2 => ?_) fun hb H2 e2 => ?_
    · have hlt : k < ns.length := by have := of_decide_eq_true hb; omega
      refine s_asg (v := .int ns[k]) (ev_op (ev_var rfl) (ev_var rfl) (rv_ixL (ex_l (e1.trans e2) hl) (atI_nat (by rw [List.getElem?_map, List.getElem?_eq_getElem hlt]; rfl)))) fun H3 e3 => ?_
      exact fin _ H3 ((e1.trans e2).trans e3)
    · exact fin _ H2 (e1.trans e2)
/-! ### _law_take -/
def sp_law_take (K : Frg) : Sp := fun vs H Q _ => ∃ (a : Addr) (m : Int), vs = [.ref a, .int m] ∧ StAt a H ∧ 0 < m ∧ m ≤ 10000000000000 ∧ ∀ r H2, 0 ≤ r → r < m → StAt a H2 → KeptS a H H2 → Q (.int r) H2
theorem ok_law_take (T : Txt K mg) : FnOk P w K mg base CX0 1 T.d_law_take.f T.d_law_take.fd ["_law_state", "_law_many"] (sp_law_take K) := by
  refine T.d_law_take.F.ok sc_law_take (fun vs H Q E h => ?_) (fun cdv A outer s H vs Q E hr h => ?_)
  · obtain ⟨a, m, rfl, _⟩ := h
    rfl
  · obtain ⟨a, m, rfl, hS, hm0, hm1, q⟩ := h
    refine ⟨_, (pss_cons (ps_if (pt_cmpR op_gt (pe_ix (kIxL K) (pv 0) pe_int (fun _ _ => rfl)) pe_int (nomark _)) (pss_cons (ps_set (i := 2) sc_law_take.nd rfl (Or.inl rfl) (pe_op op_mod (pe_ix (kIxL K) (pv 0) pe_int (fun _ _ => rfl)) (pv 1)))
      (pss_cons (ps_asg (pe_op op_fdivW (pe_ix (kIxL K) (pv 0) pe_int (fun _ _ => rfl)) (pv 1)) (pg_sub (pv 0) pe_int set_list))
      (pss_one (ps_ret (pv 2))))) pss_nil)
      (pss_cons (ps_set (i := 3) sc_law_take.nd rfl (Or.inl rfl) pe_int)
      (pss_cons (ps_for PassesOwn.never rfl (pi_range1 rfl T.n_range (pa_cons (pe_op op_add pe_int (pe_callTy call_int1 rfl T.n_int (by decide +kernel) (pa_cons (pe_cmpR op_gt (pv 1) (pe_op op_pow pe_int pe_int) (nomark _)) pa_nil))) pa_nil)) (pg_name (i := 4) sc_law_take.nd rfl (Or.inl rfl))
      (pss_cons (ps_asg (pe_op op_add (pe_ix (kIxL K) (pv 0) pe_int (fun _ _ => rfl)) pe_int) (pg_sub (pv 0) pe_int set_list))
      (pss_cons (ps_asg (pe_op op_mod (pe_op op_add (pe_op op_mul (pe_ix (kIxL K) (pv 0) pe_int (fun _ _ => rfl)) pe_int) (pe_op op_mul pe_int (pe_ix (kIxL K) (pv 0) pe_int (fun _ _ => rfl)))) pe_int) (pg_sub (pv 0) pe_int set_list))
      (pss_one (ps_set (i := 3) sc_law_take.nd rfl (Or.inl rfl) (pe_op op_add (pe_op op_mul (pv 3) pe_int) (pe_op op_mod (pe_op op_mul (pe_ix (kIxL K) (pv 0) pe_int (fun _ _ => rfl)) (pe_ix (kIxL K) (pv 0) pe_int (fun _ _ => rfl))) pe_int)))))))
      (pss_one (ps_ret (pe_op op_mod (pe_op op_fdiv (pv 3) pe_int) (pv 1))))))), ?_⟩
    obtain ⟨n, sd, c, hH, s0, s1⟩ := hS
    have hmb : m.natAbs < 2 ^ 64 := by omega
    refine q_when (b := decide (0 < n)) (et_test (ev_op (ev_op (ev_var rfl) ev_c (rv_ixL (sq_of hH) rfl)) ev_c rv_I0)) (fun _ H1 e1 => ?_) fun _ H1 e1 => ?_
    · refine q_asg (ev_op (ev_op (ev_var rfl) ev_c (rv_ixL (sq_of (e1 _ _ hH)) rfl)) (ev_var rfl) (rv_I hm0)) fun H2 e2 => ?_
      have h2 := e2 _ _ (e1 _ _ hH)
      refine q_setL (j := 0) h2 (v := .int (n / m)) (ev_op (ev_op (ev_var rfl) ev_c (rv_ixL (sq_of h2) rfl)) (ev_var rfl) (rv_I (wide_div hm0 hmb (by decide) (by decide)))) (ev_var rfl) ev_c (by simp) fun H3 e3 => ?_
      refine s_ret (v := .int (n % m)) (ev_var rfl) fun H4 e4 => ?_
      exact q _ H4 (Int.emod_nonneg _ (by omega)) (Int.emod_lt_of_pos _ hm0) ⟨n / m, sd, c, e4 _ _ upd_same, s0, s1⟩ (KeptS.trans (KeptS.mut (KeptS.of ((e1.trans e2).trans e3))) (KeptS.of e4))
    · refine q_asg (v := .int 0) ev_c fun H2 e2 => ?_
      refine q_forR1 (n := 1 + (if (decide ((1000000 : Int) < m)) then 1 else 0)) (ea_cons (ev_op ev_c (ev_cb (vs := [.bl (decide ((1000000 : Int) < m))]) (ea_cons (ev_op (ev_var rfl) (ev_is (ev_op ev_c ev_c (rv_I (by unfold CPow; decide))) (w := .int 1000000) rfl) rv_I0) ea_nil) (fun H1 _ Q q => .inr ⟨_, rfl, q H1 (Ex.refl H1)⟩)) rv_I0) ea_nil) (by split <;> omega)
        (fun i σ' H' => ∃ (made : Int) (v4 : Option V), σ' = [some (.ref a), some (.int m), none, some (.int made), v4] ∧ StAt a H' ∧ KeptS a H H')
        (fun H3 e3 => ⟨0, none, rfl, ⟨n, sd, c, e3 _ _ (e2 _ _ (e1 _ _ hH)), s0, s1⟩, KeptS.of ((e1.trans e2).trans e3)⟩) ?_ ?_
      · rintro i σ' H' hi ⟨made, v4, rfl, ⟨n', sd', c', h', t0, t1⟩, k'⟩
        refine q_setL (j := 2) h' (v := .int (c' + 1)) (ev_op (ev_op (ev_var rfl) ev_c (rv_ixL (sq_of h') rfl)) ev_c rv_I0) (ev_var rfl) ev_c (by simp) fun H3 e3 => ?_
        have k3 : KeptS a H (upd H3 a (.lst [.int n', .int sd', .int (c' + 1)])) := (k'.trans (KeptS.of e3)).mut
        have h3 : upd H3 a (.lst [.int n', .int sd', .int (c' + 1)]) a = some (.lst [.int n', .int sd', .int (c' + 1)]) := upd_same
        show tSeq _ _ _ _ (upd H3 a (.lst [.int n', .int sd', .int (c' + 1)]))
        generalize upd H3 a (.lst [.int n', .int sd', .int (c' + 1)]) = G3 at k3 h3 ⊢
        refine q_setL (j := 1) h3 (v := .int ((sd' * 48271 + 11 * (c' + 1)) % 2147483647)) (ev_op (ev_op (ev_op (ev_op (ev_var rfl) ev_c (rv_ixL (sq_of h3) rfl)) ev_c (rv_I (by unfold CMul; omega))) (ev_op ev_c (ev_op (ev_var rfl) ev_c (rv_ixL (sq_of h3) rfl)) (rv_I (by unfold CMul; omega))) rv_I0) ev_c (rv_I (by omega))) (ev_var rfl) ev_c (by simp) fun H4 e4 => ?_
        have k4 : KeptS a H (upd H4 a (.lst [.int n', .int ((sd' * 48271 + 11 * (c' + 1)) % 2147483647), .int (c' + 1)])) := (k3.trans (KeptS.of e4)).mut
        have h4 : upd H4 a (.lst [.int n', .int ((sd' * 48271 + 11 * (c' + 1)) % 2147483647), .int (c' + 1)]) a = some (.lst [.int n', .int ((sd' * 48271 + 11 * (c' + 1)) % 2147483647), .int (c' + 1)]) := upd_same
        show tAsg _ _ _ _ (upd H4 a (.lst [.int n', .int ((sd' * 48271 + 11 * (c' + 1)) % 2147483647), .int (c' + 1)]))
        have z0 := Int.emod_nonneg (sd' * 48271 + 11 * (c' + 1)) (show (2147483647 : Int) ≠ 0 by decide)
        have z1 := Int.emod_lt_of_pos (sd' * 48271 + 11 * (c' + 1)) (show (0 : Int) < 2147483647 by decide)
        generalize upd H4 a (.lst [.int n', .int ((sd' * 48271 + 11 * (c' + 1)) % 2147483647), .int (c' + 1)]) = G4 at k4 h4 ⊢
        generalize (sd' * 48271 + 11 * (c' + 1)) % 2147483647 = sd2 at h4 z0 z1
        refine s_asg (ev_op (ev_op (ev_var rfl) ev_c (rv_I (by unfold CMul; omega))) (ev_op (ev_op (ev_op (ev_var rfl) ev_c (rv_ixL (sq_of h4) rfl)) (ev_op (ev_var rfl) ev_c (rv_ixL (sq_of h4) rfl)) (rv_I (by unfold CMul; omega))) ev_c (rv_I (by omega))) rv_I0) fun H5 e5 => ?_
        exact ⟨_, _, rfl, ⟨n', sd2, c' + 1, e5 _ _ h4, z0, z1⟩, k4.trans (KeptS.of e5)⟩
      · rintro σ' H' ⟨made, v4, rfl, s', k'⟩
        refine s_ret (v := .int (made / 16 % m)) (ev_op (ev_op (ev_var rfl) ev_c (rv_I (by unfold CDiv; omega))) (ev_var rfl) (rv_I hm0)) fun H3 e3 => ?_
        exact q _ H3 (Int.emod_nonneg _ (by omega)) (Int.emod_lt_of_pos _ hm0) (s'.mono e3) (k'.trans (KeptS.of e3))
theorem evs_take {σ : L2.St} {a : Addr} {H : Hp} {ta tm : TE} {M : Int} {P1 : Int → Prop} (ha : Ev ta σ (New (one a) H) (.ref a)) (hm : EvS tm σ a H P1) (h1 : ∀ m, P1 m → 0 < m ∧ m ≤ M) (hM : M ≤ 10000000000000) : EvS (tCall (sp_law_take K) [] E0 (tCons ta (tCons tm tNil))) σ a H fun r => 0 ≤ r ∧ r < M := fun H1 k s Q q =>
  ha H1 (Ex.trans k new_ex) _ fun H2 e2 => hm H2 (k.trans (KeptS.of e2)) (s.mono e2) _ fun m H3 p3 s3 k3 => ⟨a, m, rfl, s3, (h1 m p3).1, by have := (h1 m p3).2; omega, fun r H4 r0 r1 s4 k4 => q r H4 ⟨r0, by have := (h1 m p3).2; omega⟩ s4 (((KeptS.of e2).trans k3).trans k4)⟩
theorem evs_takeC {σ : L2.St} {a : Addr} {H : Hp} {ta tm : TE} {M : Int} (ha : Ev ta σ (New (one a) H) (.ref a)) (hm : Ev tm σ (New (one a) H) (.int M)) (h0 : 0 < M) (hM : M ≤ 10000000000000) : EvS (tCall (sp_law_take K) [] E0 (tCons ta (tCons tm tNil))) σ a H fun r => 0 ≤ r ∧ r < M :=
  evs_take ha (evs_ev (P := fun m => m = M) hm rfl) (fun m e => by subst e; exact ⟨h0, Int.le_refl _⟩) hM
/-! ### _law_name -/
def letters : Str := "abcdefghijklmnopqrstuvwxyz"
theorem letters_len : letters.cps.toList.length = 26 := by decide +kernel
theorem letters_at {r : Int} (h0 : 0 ≤ r) (h1 : r < 26) : ∃ c, atI letters.cps.toList r = some c := by
  obtain ⟨j, rfl⟩ := Int.eq_ofNat_of_zero_le h0
  have hj : j < letters.cps.toList.length := by rw [letters_len]; omega
  exact ⟨_, atI_nat (List.getElem?_eq_getElem hj)⟩
def sp_law_name (K : Frg) : Sp := fun vs H Q _ => ∃ (a : Addr) (k : Nat), vs = [.ref a, .int (k : Int)] ∧ StAt a H ∧ k < 26 ∧ ∀ (n : Str) H2, StAt a H2 → KeptS a H H2 → Q (.str n) H2
theorem ok_law_name (T : Txt K mg) : FnOk P w K mg base CX0 2 T.d_law_name.f T.d_law_name.fd ["_law_state", "_law_k"] (sp_law_name K) := by
  refine T.d_law_name.F.ok sc_law_name (fun vs H Q E h => ?_) (fun cdv A outer s H vs Q E hr h => ?_)
  · obtain ⟨a, k, rfl, _⟩ := h
    rfl
  · obtain ⟨a, k, rfl, hS, hk, q⟩ := h
    refine ⟨_, (pss_cons (ps_set (i := 2) sc_law_name.nd rfl (Or.inl rfl) pe_str)
      (pss_cons (ps_set (i := 3) sc_law_name.nd rfl (Or.inl rfl) pe_str)
      (pss_cons (ps_for PassesOwn.never rfl (pi_range1 rfl T.n_range (pa_cons (pe_call (ok_law_take T) (hr.mono (by decide)) rfl T.d_law_take.m T.d_law_take.F.kp T.d_law_take.b .nil pass0 (pa_cons (pv 0) (pa_cons pe_int pa_nil))) pa_nil)) (pg_name (i := 4) sc_law_name.nd rfl (Or.inl rfl))
      (pss_one (ps_set (i := 3) sc_law_name.nd rfl (Or.inl rfl) (pe_op op_add_str (pv 3) (pe_ix ix_str (pv 2) (pe_call (ok_law_take T) (hr.mono (by decide)) rfl T.d_law_take.m T.d_law_take.F.kp T.d_law_take.b .nil pass0 (pa_cons (pv 0) (pa_cons pe_int pa_nil))) (fun _ _ => rfl))))))
      (pss_one (ps_ret (pe_op op_add_str (pv 3) (pe_ix ix_str (pv 2) (pv 1) (fun _ _ => rfl)))))))), ?_⟩
    refine q_asg (v := .str letters) ev_c fun H1 e1 => ?_
    refine q_asg (v := .str "") ev_c fun H2 e2 => ?_
    refine q_forS (P := fun r => 0 ≤ r ∧ r < 8) (evs_takeC (ev_var rfl) ev_c (by decide) (by decide)) (hS.mono (e1.trans e2)) (fun r hr => by omega) (fun n i σ' H' => ∃ (sp : Str) (v4 : Option V), σ' = [some (.ref a), some (.int (k : Int)), some (.str letters), some (.str sp), v4] ∧ sp.length ≤ i ∧ StAt a H' ∧ KeptS a H H')
      (fun n H3 _ s3 k3 => ⟨"", none, rfl, (by decide), s3, (KeptS.of (e1.trans e2)).trans k3⟩) ?_ ?_
    · rintro n i σ' H' hn hi ⟨sp, v4, rfl, hl, s', k'⟩
      have key := evs_takeC (K := K) (σ := [some (.ref a), some (.int (k : Int)), some (.str letters), some (.str sp), some (.int (i : Int))]) (a := a) (H := H') (ta := tVar 0) (tm := tC (.int 26)) (ev_var rfl) ev_c (by decide) (by decide)
      refine ⟨_, rfl, _, rfl, key H' (KeptS.refl _ _) s' _ fun r H3 hr3 s3 k3 => ?_⟩
      obtain ⟨c, hc⟩ := letters_at hr3.1 hr3.2
      refine ⟨letters, r, c, rfl, rfl, sz_of (by decide +kernel), hc, sp, _, rfl, rfl, sz_of ?_, sp ++ _, _, rfl, ?_, s3, k'.trans k3⟩
      · have : (⟨#[c]⟩ : Str).length = 1 := rfl
        rw [this]
        omega
      · rw [Str.length_append]
        have : (⟨#[c]⟩ : Str).length = 1 := rfl
        rw [this]
        omega
    · rintro n σ' H' hn ⟨sp, v4, rfl, hl, s', k'⟩
      obtain ⟨c, hc⟩ := letters_at (r := (k : Int)) (by omega) (by omega)
      refine s_ret (ev_op (ev_var rfl) (ev_op (ev_var rfl) (ev_var rfl) (rv_ixS (by decide +kernel) hc)) (rv_cats ?_)) fun H3 e3 => q _ H3 (s'.mono e3) (k'.trans (KeptS.of e3))
      have : (⟨#[c]⟩ : Str).length = 1 := rfl
      rw [this]
      omega
end
end BW
/-! The law's own defs: the book drawn. -/
namespace BW
open PySem L2 Evl
local macro_rules | `(tactic| walk_at "at") => `(tactic| first | rfl | assumption | exact atI_nat (by assumption))
local macro_rules | `(tactic| walk_at "rv") => `(tactic| first | exact rv_I0 | exact rv_eq rfl | exact rv_ne rfl | exact rv_isN | exact rv_notN | exact rv_notB | exact rv_ixL (by assumption) (by walk_at "at") | exact rv_ixT (by assumption) (by walk_at "at") | exact rv_I (by omega))
local macro_rules | `(tactic| walk_at "ev") => `(tactic| first | exact ev_c | exact ev_var rfl | assumption | (apply ev_chain; walk_at "ev"; walk_at "ev"; walk_at "rv"; walk_at "ev"; walk_at "rv") | (apply ev_op; walk_at "ev"; walk_at "ev"; walk_at "rv"))
theorem evs_w {σ : L2.St} {a : Addr} {H : Hp} {te : TE} {P P' : Int → Prop} (h : EvS te σ a H P) (k : ∀ r, P r → P' r) : EvS te σ a H P' := fun H1 x s Q q => h H1 x s Q fun r H2 p => q r H2 (k r p)
theorem KeptS.mut2 {a p : Addr} {H H' : Hp} {o : HO} (k : KeptS a H H') (h : H p = none) : KeptS a H (upd H' p o) := fun b u hb => by
  obtain ⟨h1, h2⟩ := new_some hb
  have nb : b ≠ p := fun z => by rw [z, h] at h2; cases h2
  rw [new_of h1, upd_ne nb]
  exact (new_some (k b u hb)).2
theorem BkOk.snoc {bk : Bk} {b e w : Int} (B : BkOk bk) (few : bk.length < 8) (h1 : b < e) (h2 : 0 - 1000000000000 ≤ b) (h3 : e ≤ 1000000000000) (h4 : 0 ≤ w) (h5 : w ≤ 1000000000000) : BkOk (bk ++ [(b, e, w)]) := by
  have at1 : ∀ i, i < (bk ++ [(b, e, w)]).length → (i < bk.length ∧ stt (bk ++ [(b, e, w)]) i = stt bk i) ∨ stt (bk ++ [(b, e, w)]) i = (b, e, w) := fun i hi => by
    rw [List.length_append] at hi
    simp at hi
    by_cases c : i < bk.length
    · exact .inl ⟨c, by unfold stt; exact getD_app_lt c⟩
    · have : i = bk.length := by omega
      subst this
      exact .inr (by unfold stt; exact getD_app_eq)
  refine ⟨by rw [List.length_append]; simp; omega, fun i hi => ?_, fun i hi => ?_, fun i hi => ?_, fun i hi => ?_, fun i hi => ?_⟩
  · rcases at1 i hi with ⟨c, q⟩ | q <;> rw [q]
    · exact B.lt i c
    · exact h1
  · rcases at1 i hi with ⟨c, q⟩ | q <;> rw [q]
    · exact B.lo i c
    · exact h2
  · rcases at1 i hi with ⟨c, q⟩ | q <;> rw [q]
    · exact B.hi i c
    · exact h3
  · rcases at1 i hi with ⟨c, q⟩ | q <;> rw [q]
    · exact B.w0 i c
    · exact h4
  · rcases at1 i hi with ⟨c, q⟩ | q <;> rw [q]
    · exact B.w1 i c
    · exact h5
theorem bkOk_nil : BkOk [] := ⟨by decide, fun i h => by simp at h, fun i h => by simp at h, fun i h => by simp at h, fun i h => by simp at h, fun i h => by simp at h⟩
section
variable {P : Program} {w : World} {K : Frg} {mg : Str → Option Value} {base : Heap}
def sp_law_book (K : Frg) : Sp := fun vs H Q _ => ∃ (a : Addr), vs = [.ref a, .int 8] ∧ StAt a H ∧ ∀ bk v H2, BkOk bk → StAt a H2 → KeptS a H H2 → rTL (rStt K) (New H H2) v bk → Q v H2
theorem ok_law_book (T : Txt K mg) : FnOk P w K mg base CX0 3 T.d_law_book.f T.d_law_book.fd ["_law_state", "_law_most"] (sp_law_book K) := by
  refine T.d_law_book.F.ok sc_law_book (fun vs H Q E h => ?_) (fun cdv A outer s H vs Q E hr h => ?_)
  · obtain ⟨a, rfl, _⟩ := h
    rfl
  · obtain ⟨a, rfl, hS, q⟩ := h
    refine ⟨_, (pss_cons (ps_set (i := 2) sc_law_book.nd rfl (Or.inl rfl) (pe_ix (kIxL K) (pe_lst (pa_cons pe_int (pa_cons pe_int (pa_cons pe_int (pa_cons pe_int pa_nil))))) (pe_call (ok_law_take T) (hr.mono (by decide)) rfl T.d_law_take.m T.d_law_take.F.kp T.d_law_take.b .nil pass0 (pa_cons (pv 0) (pa_cons pe_int pa_nil))) (fun _ _ => rfl)))
      (pss_cons (ps_set (i := 3) sc_law_book.nd rfl (Or.inl rfl) (pe_op op_add pe_int (pe_call (ok_law_take T) (hr.mono (by decide)) rfl T.d_law_take.m T.d_law_take.F.kp T.d_law_take.b .nil pass0 (pa_cons (pv 0) (pa_cons (pe_ix (kIxL K) (pe_lst (pa_cons pe_int (pa_cons pe_int (pa_cons pe_int (pa_cons (pe_op op_pow pe_int pe_int) pa_nil))))) (pe_call (ok_law_take T) (hr.mono (by decide)) rfl T.d_law_take.m T.d_law_take.F.kp T.d_law_take.b .nil pass0 (pa_cons (pv 0) (pa_cons pe_int pa_nil))) (fun _ _ => rfl)) pa_nil)))))
      (pss_cons (ps_set (i := 4) sc_law_book.nd rfl (Or.inl rfl) (pe_ix (kIxL K) (pe_lst (pa_cons pe_int (pa_cons (pe_un un_neg pe_int) (pa_cons (pe_un un_neg (pe_op op_pow pe_int pe_int)) (pa_cons (pe_op op_sub (pe_op op_pow pe_int pe_int) (pe_op op_mul pe_int (pv 3))) pa_nil))))) (pe_call (ok_law_take T) (hr.mono (by decide)) rfl T.d_law_take.m T.d_law_take.F.kp T.d_law_take.b .nil pass0 (pa_cons (pv 0) (pa_cons pe_int pa_nil))) (fun _ _ => rfl)))
      (pss_cons (ps_set (i := 5) sc_law_book.nd rfl (Or.inl rfl) (pe_lst pa_nil))
      (pss_cons (ps_for PassesOwn.never rfl (pi_range1 rfl T.n_range (pa_cons (pe_call (ok_law_take T) (hr.mono (by decide)) rfl T.d_law_take.m T.d_law_take.F.kp T.d_law_take.b .nil pass0 (pa_cons (pv 0) (pa_cons (pe_op op_add (pv 1) pe_int) pa_nil))) pa_nil)) (pg_name (i := 6) sc_law_book.nd rfl (Or.inl rfl))
      (pss_cons (ps_set (i := 7) sc_law_book.nd rfl (Or.inl rfl) (pe_call (ok_law_take T) (hr.mono (by decide)) rfl T.d_law_take.m T.d_law_take.F.kp T.d_law_take.b .nil pass0 (pa_cons (pv 0) (pa_cons (pv 2) pa_nil))))
      (pss_cons (ps_set (i := 8) sc_law_book.nd rfl (Or.inl rfl) (pe_op op_add (pe_op op_add (pv 7) pe_int) (pe_call (ok_law_take T) (hr.mono (by decide)) rfl T.d_law_take.m T.d_law_take.F.kp T.d_law_take.b .nil pass0 (pa_cons (pv 0) (pa_cons (pv 2) pa_nil)))))
      (pss_cons (ps_set (i := 9) sc_law_book.nd rfl (Or.inl rfl) (pe_call (ok_law_take T) (hr.mono (by decide)) rfl T.d_law_take.m T.d_law_take.F.kp T.d_law_take.b .nil pass0 (pa_cons (pv 0) (pa_cons (pe_ix (kIxL K) (pe_lst (pa_cons pe_int (pa_cons pe_int (pa_cons pe_int (pa_cons (pe_op op_add (pe_op op_pow pe_int pe_int) pe_int) pa_nil))))) (pe_call (ok_law_take T) (hr.mono (by decide)) rfl T.d_law_take.m T.d_law_take.F.kp T.d_law_take.b .nil pass0 (pa_cons (pv 0) (pa_cons pe_int pa_nil))) (fun _ _ => rfl)) pa_nil))))
      (pss_cons (ps_set (i := 10) sc_law_book.nd rfl (Or.inl rfl) (pe_tup (pa_cons (pe_op op_add (pv 4) (pe_op op_mul (pv 3) (pv 7))) (pa_cons (pe_op op_add (pv 4) (pe_op op_mul (pv 3) (pv 8))) pa_nil))))
      (pss_cons (ps_if (PW.pt (pw_and (pt_cmpR op_gt (pv 6) pe_int (nomark _)) (pw_and1 (pt_cmpR op_eq (pe_call (ok_law_take T) (hr.mono (by decide)) rfl T.d_law_take.m T.d_law_take.F.kp T.d_law_take.b .nil pass0 (pa_cons (pv 0) (pa_cons pe_int pa_nil))) pe_int (nomark _))))) (pss_one (ps_set (i := 10) sc_law_book.nd rfl (Or.inl rfl) (pe_slice (kSlT K) (pe_ix (kIxL K) (pv 5) (pe_un un_neg pe_int) (fun _ _ => rfl)) (po_some pe_int) (po_some pe_int)))) pss_nil)
      (pss_one (ps_expr (kBM K (pe_bm PySem.F.plainAttrs_list PySem.F.slot_list_append PySem.F.type_list_append mt_append (pv 5) (pa_cons (pe_tup (pa_cons (pe_call (ok_law_name T) (hr.mono (by decide)) rfl T.d_law_name.m T.d_law_name.F.kp T.d_law_name.b .nil pass0 (pa_cons (pv 0) (pa_cons (pv 6) pa_nil))) (pa_cons (pe_ix (kIxT K) (pv 10) pe_int (fun _ _ => rfl)) (pa_cons (pe_ix (kIxT K) (pv 10) pe_int (fun _ _ => rfl)) (pa_cons (pv 9) pa_nil))))) pa_nil)))))))))))
      (pss_one (ps_ret (pv 5)))))))), ?_⟩
    have take4 : ∀ {σ : L2.St} {H1 : Hp}, σ[0]? = some (some (.ref a)) → EvS (tCall (sp_law_take K) [] E0 (tCons (tVar 0) (tCons (tC (.int 4)) tNil))) σ a H1 fun r => 0 ≤ r ∧ r < 4 := fun h => evs_takeC (ev_var h) ev_c (by decide) (by decide)
    have e12 : ∀ {σ : L2.St} {H1 : Hp}, Ev (tOp (rI CPow fun i j => .int (i ^ j.toNat)) (tC (.int 10)) (tC (.int 12))) σ H1 (.int 1000000000000) := fun {σ H1} => ev_is (ev_op ev_c ev_c (rv_I (by unfold CPow; decide))) rfl
    have e10 : ∀ {σ : L2.St} {H1 : Hp}, Ev (tOp (rI CPow fun i j => .int (i ^ j.toNat)) (tC (.int 10)) (tC (.int 10))) σ H1 (.int 10000000000) := fun {σ H1} => ev_is (ev_op ev_c ev_c (rv_I (by unfold CPow; decide))) rfl
    -- size
    refine c_asgS (P := fun v => 0 < v ∧ v ≤ 14) (evs_w (evs_pick (xs := [3, 6, 9, 14]) (el_lst (ea_cons ev_c (ea_cons ev_c (ea_cons ev_c (ea_cons ev_c ea_nil)))) (by simp)) (evs_w (take4 rfl) fun r h => h)) fun r h => ?_) hS fun size H1 p1 s1 k1 => ?_
    · simp only [List.mem_cons, List.not_mem_nil, or_false] at h
      omega
    -- unit
    refine c_asgS (P := fun v => 1 ≤ v ∧ v ≤ 10000000000) (evs_op (P := fun i => i = 1) (evs_ev ev_c rfl) (evs_take (M := 10000000000) (ev_var rfl) (evs_pick (xs := [1, 1, 7, 10000000000]) (el_lst (ea_cons ev_c (ea_cons ev_c (ea_cons ev_c (ea_cons e10 ea_nil)))) (by simp)) (evs_w (take4 rfl) fun r h => h)) (fun m h => ?_) (by decide)) fun i j hi hj => by subst hi; omega) s1 fun unit H2 p2 s2 k2 => ?_
    · simp only [List.mem_cons, List.not_mem_nil, or_false] at h
      omega
    -- low
    refine c_asgS (P := fun v => -1000000000000 ≤ v ∧ v + 28 * unit ≤ 1000000000000) (evs_w (evs_pick (xs := [0, -3, -1000000000000, 1000000000000 - 28 * unit]) (el_lst (ea_cons ev_c (ea_cons (ev_un ev_c ru_neg) (ea_cons (ev_un e12 ru_neg) (ea_cons (ev_op e12 (ev_op ev_c (ev_var rfl) (rv_I (by unfold CMul; omega))) rv_I0) ea_nil)))) (by simp)) (evs_w (take4 rfl) fun r h => h)) fun r h => ?_) s2 fun low H3 p3 s3 k3 => ?_
    · simp only [List.mem_cons, List.not_mem_nil, or_false] at h
      omega
    refine q_asgL (el_lst ea_nil (by simp)) fun p5 H4 hp5 e4 h4 => ?_
    have K4 : KeptS a H H4 := ((k1.trans k2).trans k3).trans (KeptS.of e4)
    have na5 : p5 ≠ a := fun z => by
      obtain ⟨_, _, _, h1, _⟩ := s3
      rw [z, h1] at hp5
      cases hp5
    have hp5' : H p5 = none := one_back ((k1.trans k2).trans k3) na5 hp5
    obtain ⟨x1, x2, x3, hSa, _⟩ := hS
    have b5 : upd H p5 (.lst []) p5 = some (.lst []) := upd_same
    have ba : upd H p5 (.lst []) a = some (.lst [.int x1, .int x2, .int x3]) := by rw [upd_ne (Ne.symm na5)]; exact hSa
    have bm0 : ∀ b, upd H p5 (.lst []) b = none → H b = none := fun b hb => by
      have nb : b ≠ p5 := fun z => by rw [z, upd_same] at hb; cases hb
      rwa [upd_ne nb] at hb
    have sub : ∀ {G : Hp} {o : HO}, KeptS a H G → StAt a G → G p5 = some o → Sub (upd H p5 (.lst [])) G := fun k s g b hb => by
      have n5 : b ≠ p5 := fun z => by rw [z, g] at hb; cases hb
      rw [upd_ne n5]
      obtain ⟨_, _, _, g1, _⟩ := s
      exact one_back k (fun z => by rw [z, g1] at hb; cases hb) hb
    refine q_forS (P := fun r => 0 ≤ r ∧ r < 9) (evs_takeC (ev_var rfl) (ev_is (ev_op (ev_var rfl) ev_c rv_I0) rfl) (by decide) (by decide)) (s3.mono e4) (fun r hr => by omega)
      (fun n i σ' H' => ∃ (v6 v7 v8 v9 v10 : Option V) (bk : Bk) (acc : List V), σ' = [some (.ref a), some (.int 8), some (.int size), some (.int unit), some (.int low), some (.ref p5), v6, v7, v8, v9, v10] ∧ StAt a H' ∧ KeptS a H H' ∧ H' p5 = some (.lst acc) ∧ All2 (rStt K (New (upd H p5 (.lst [])) H')) acc bk ∧ BkOk bk ∧ bk.length = i)
      (fun n H5 _ s5 k5 => ⟨none, none, none, none, none, [], [], rfl, s5, K4.trans k5, one_at k5 na5 h4, All2.nil, bkOk_nil, rfl⟩) ?_ ?_
    · rintro n i σ' H' hn hi ⟨v6, v7, v8, v9, v10, bk, acc, rfl, s5, k5, hv, hA, BO, hl⟩
      have hal := hA.1
      have tsize : ∀ {σ : L2.St} {H1 : Hp}, σ[0]? = some (some (.ref a)) → σ[2]? = some (some (.int size)) → EvS (tCall (sp_law_take K) [] E0 (tCons (tVar 0) (tCons (tVar 2) tNil))) σ a H1 fun r => 0 ≤ r ∧ r < 14 := fun h h' => evs_take (P1 := fun m => m = size) (ev_var h) (evs_ev (ev_var h') rfl) (fun m e => by subst e; exact p1) (by decide)
      refine c_asgS (tsize rfl rfl) s5 fun bg H6 p6 s6 k6 => ?_
      refine c_asgS (P := fun e => bg < e ∧ e ≤ bg + 14) (evs_op (P := fun e => e = bg + 1) (evs_ev (ev_op (ev_var rfl) ev_c rv_I0) rfl) (tsize rfl rfl) fun x y hx hy => by subst hx; omega) s6 fun en H7 p7 s7 k7 => ?_
      refine c_asgS (P := fun r => 0 ≤ r ∧ r < 1000000000001) (evs_take (M := 1000000000001) (ev_var rfl) (evs_pick (xs := [4, 12, 100, 1000000000001]) (el_lst (ea_cons ev_c (ea_cons ev_c (ea_cons ev_c (ea_cons (ev_op e12 ev_c rv_I0) ea_nil)))) (by simp)) (evs_w (take4 rfl) fun r h => h)) (fun m h => ?_) (by decide)) s7 fun wo H8 p8 s8 k8 => ?_
      · simp only [List.mem_cons, List.not_mem_nil, or_false] at h
        omega
      refine q_asgU (eu_tup (ea_cons (ev_op (ev_var rfl) (ev_op (ev_var rfl) (ev_var rfl) (rv_I (by unfold CMul; omega))) rv_I0) (ea_cons (ev_op (ev_var rfl) (ev_op (ev_var rfl) (ev_var rfl) (rv_I (by unfold CMul; omega))) rv_I0) ea_nil)) (by simp)) fun t H9 ht e9 h9 => ?_
      have K9 : KeptS a H' H9 := ((k6.trans k7).trans k8).trans (KeptS.of e9)
      have S9 := s8.mono e9
      -- what comes last
      have cont : ∀ {D : Ends}, (∀ σ2 H2, (∃ (v6 v7 v8 v9 v10 : Option V) (bk : Bk) (acc : List V), σ2 = [some (.ref a), some (.int 8), some (.int size), some (.int unit), some (.int low), some (.ref p5), v6, v7, v8, v9, v10] ∧ StAt a H2 ∧ KeptS a H H2 ∧ H2 p5 = some (.lst acc) ∧ All2 (rStt K (New (upd H p5 (.lst [])) H2)) acc bk ∧ BkOk bk ∧ bk.length = i + 1) → D.nx σ2 H2) →
          ∀ (t : Addr) (b e : Int) (G : Hp), KeptS a H' G → StAt a G → SqT K (New (one a) G) t [.int b, .int e] → b < e → 0 - 1000000000000 ≤ b → e ≤ 1000000000000 →
          tDrop (tBM K "list" rAppend (tVar 5) (tCons (tTup (tCons (tCall (sp_law_name K) [] E0 (tCons (tVar 0) (tCons (tVar 6) tNil))) (tCons (tOp (rIxT K) (tVar 10) (tC (.int 0))) (tCons (tOp (rIxT K) (tVar 10) (tC (.int 1))) (tCons (tVar 9) tNil))))) tNil)) D
            [some (.ref a), some (.int 8), some (.int size), some (.int unit), some (.int low), some (.ref p5), some (.int (i : Int)), some (.int bg), some (.int en), some (.int wo), some (.ref t)] G := by
        intro D hD t b e G kG sG ht hbe hlo hhi
        have g5 : G p5 = some (.lst acc) := one_at kG na5 hv
        refine ⟨_, rfl, Or.inl ⟨rfl, acc, sq_of g5⟩, _, rfl, _, rfl, a, i, rfl, sG, by omega, fun nm H10 s10 k10 => ?_⟩
        have t10 : SqT K H10 t [.int b, .int e] := ex_t (Ex.trans k10 new_ex) ht
        refine (ea_cons (ev_op (ev_var rfl) ev_c (rv_ixT t10 rfl)) (ea_cons (ev_op (ev_var rfl) ev_c (rv_ixT t10 rfl)) (ea_cons (ev_var rfl) ea_nil))) H10 (Ex.refl _) _ fun H11 e11 => ⟨by show 4 ≤ sizeLine; decide, fun u hu => ?_⟩
        have kG11 : KeptS a H' H11 := kG.trans (k10.trans (KeptS.of e11))
        have h5 : H11 p5 = some (.lst acc) := one_at kG11 na5 hv
        have nu5 : p5 ≠ u := fun z => by rw [← z, h5] at hu; cases hu
        refine ⟨p5, acc, .ref u, rfl, rfl, by rw [upd_ne nu5]; exact h5, sz_lt (by omega), hD _ _ ⟨_, _, _, _, _, bk ++ [(b, e, wo)], acc ++ [.ref u], rfl, ?_, ?_, upd_same, ?_, BO.snoc (by omega) hbe hlo hhi (by omega) (by omega), by rw [List.length_append]; simp; exact hl⟩⟩
        · obtain ⟨y1, y2, y3, y4, y5⟩ := (s10.mono e11).mono (Ex.new (o := .tup [.str nm, .int b, .int e, .int wo]) hu)
          exact ⟨y1, y2, y3, by rw [upd_ne (Ne.symm na5)]; exact y4, y5⟩
        · exact (k5.trans (kG11.trans (KeptS.of (Ex.new hu)))).mut2 hp5'
        · rw [new_mut b5]
          have k' : Ex (New (upd H p5 (.lst [])) H') (New (upd H p5 (.lst [])) (upd H11 u (.tup [.str nm, .int b, .int e, .int wo]))) := keptN ba (kG11.trans (KeptS.of (Ex.new hu)))
          refine (hA.mono fun _ _ => Mono.mono k').snoc ⟨u, nm, rfl, st_of ?_⟩
          rw [new_of ((sub (k5.trans kG11) (s10.mono e11) h5) u hu), upd_same]
      have hbd : low + unit * bg < low + unit * en ∧ 0 - 1000000000000 ≤ low + unit * bg ∧ low + unit * en ≤ 1000000000000 := by
        have u1 : unit * bg < unit * en := Int.mul_lt_mul_of_pos_left p7.1 (by omega)
        have u2 : 0 ≤ unit * bg := Int.mul_nonneg (by omega) p6.1
        have u3 : unit * en ≤ unit * 28 := Int.mul_le_mul_of_nonneg_left (by omega) (by omega)
        rw [Int.mul_comm unit 28] at u3
        omega
      have nta : t ≠ a := fun z => by
        obtain ⟨_, _, _, g1, _⟩ := s8
        rw [z, g1] at ht
        cases ht
      have t9 : SqT K (New (one a) H9) t [.int (low + unit * bg), .int (low + unit * en)] := st_of (by rw [new_of (one_ne nta)]; exact h9)
      have plain : ∀ {D : Ends}, (∀ σ2 H2, (∃ (v6 v7 v8 v9 v10 : Option V) (bk : Bk) (acc : List V), σ2 = [some (.ref a), some (.int 8), some (.int size), some (.int unit), some (.int low), some (.ref p5), v6, v7, v8, v9, v10] ∧ StAt a H2 ∧ KeptS a H H2 ∧ H2 p5 = some (.lst acc) ∧ All2 (rStt K (New (upd H p5 (.lst [])) H2)) acc bk ∧ BkOk bk ∧ bk.length = i + 1) → D.nx σ2 H2) → ∀ (G : Hp), KeptS a H9 G → StAt a G → _ := fun {D} hD G kG sG => cont (D := D) hD t _ _ G (K9.trans kG) sG (ex_t kG t9) hbd.1 hbd.2.1 hbd.2.2
      by_cases hi0 : i = 0
      · refine q_when (b := false) (et_is (et_and (a := false) (b := false) (et_test (ev_is (ev_op (ev_var rfl) ev_c rv_I0) (by rw [decide_eq_false (by omega)]))) fun z => nomatch z) rfl) (fun z => nomatch z) fun _ H10 e10 => ?_
        exact plain (fun _ _ h => h) H10 (KeptS.of e10) (S9.mono e10)
      · refine (et_test (ev_is (ev_op (ev_var rfl) ev_c rv_I0) (w := .bl true) (by rw [decide_eq_true (by omega)]))) H9 (Ex.refl _) _ fun H10 e10 => ?_
        have six := evs_takeC (K := K) (σ := [some (.ref a), some (.int 8), some (.int size), some (.int unit), some (.int low), some (.ref p5), some (.int (i : Int)), some (.int bg), some (.int en), some (.int wo), some (.ref t)]) (a := a) (H := H10) (ta := tVar 0) (tm := tC (.int 6)) (ev_var rfl) ev_c (by decide) (by decide)
        refine six H10 (KeptS.refl _ _) (S9.mono e10) _ fun r H11 pr s11 k11 => ⟨rfl, _, rfl, ?_⟩
        have k911 : KeptS a H9 H11 := (KeptS.of e10).trans k11
        cases hr0 : decide (V.int r = V.int 0) with
        | false => exact plain (fun _ _ h => h) H11 k911 s11
        | true =>
          have g5 : H11 p5 = some (.lst acc) := one_at (K9.trans k911) na5 hv
          -- the last stretch
          have hb' : bk ≠ [] := fun z => by rw [z] at hl; exact hi0 hl.symm
          obtain ⟨bk0, s0, rfl⟩ := List.eq_nil_or_concat bk |>.resolve_left hb'
          rw [List.concat_eq_append] at hA BO hl
          have hacc : acc ≠ [] := fun z => by rw [z] at hal; simp at hal
          obtain ⟨acc0, v0, rfl⟩ := List.eq_nil_or_concat acc |>.resolve_left hacc
          rw [List.concat_eq_append] at hA g5
          have hl2 : acc0.length = bk0.length := by have := hA.1; simp at this; exact this
          obtain ⟨u, nm, rfl, hu⟩ := hA.2 acc0.length v0 s0 (by simp) (by rw [hl2]; simp)
          have hu11 : SqT K H11 u [.str nm, .int s0.1, .int s0.2.1, .int s0.2.2] := ex_t ((keptN ba (K9.trans k911)).trans new_ex) hu
          have hb0 : bk0.length < (bk0 ++ [s0]).length := by simp
          have es : stt (bk0 ++ [s0]) bk0.length = s0 := by unfold stt; exact getD_app_eq
          have z1 := BO.lt _ hb0
          have z2 := BO.lo _ hb0
          have z3 := BO.hi _ hb0
          rw [es] at z1 z2 z3
          refine (ev_op (ev_var rfl) (ev_un ev_c ru_neg) (rv_ixL (sq_of g5) (atI_last acc0 (.ref u)))) H11 (Ex.refl _) _ fun H12 e12 => ⟨1, rfl, 3, rfl, u, _, rfl, ex_t e12 hu11, (by show ¬ (HT.sIx 4 0 (some 1) = 0 ∧ HT.sIx 4 4 (some 3) = 4); decide), fun d hd => ?_⟩
          have nda : d ≠ a := fun z => by
            obtain ⟨_, _, _, g1, _⟩ := s11.mono e12
            rw [z, g1] at hd
            cases hd
          have k12 : KeptS a H9 (upd H12 d (.tup [.int s0.1, .int s0.2.1])) := k911.trans ((KeptS.of e12).trans (KeptS.of (Ex.new hd)))
          refine cont (fun _ _ h => h) d s0.1 s0.2.1 _ (K9.trans k12) ((s11.mono e12).mono (Ex.new hd)) (st_of ?_) z1 z2 z3
          rw [new_of (one_ne nda)]
          exact upd_same
    · rintro n σ' H' hn ⟨v6, v7, v8, v9, v10, bk, acc, rfl, s5, k5, hv, hA, BO, hl⟩
      refine s_ret (v := .ref p5) (ev_var rfl) fun H6 e6 => ?_
      refine q bk _ H6 BO (s5.mono e6) (k5.trans (KeptS.of e6)) ⟨p5, acc, rfl, by rw [new_of hp5']; exact e6 _ _ hv, hA.mono fun _ _ => Mono.mono ((new_mono e6).trans (new_base bm0))⟩
end
end BW
/-! The law's own defs: loads, choices told one by one. -/
namespace BW
open PySem L2 Evl
local macro_rules | `(tactic| walk_at "at") => `(tactic| first | rfl | assumption | exact atI_nat (by assumption))
local macro_rules | `(tactic| walk_at "rv") => `(tactic| first | exact rv_I0 | exact rv_eq rfl | exact rv_ne rfl | exact rv_isN | exact rv_notN | exact rv_notB | exact rv_ixL (by assumption) (by walk_at "at") | exact rv_ixT (by assumption) (by walk_at "at") | exact rv_I (by omega))
local macro_rules | `(tactic| walk_at "ev") => `(tactic| first | exact ev_c | exact ev_var rfl | assumption | (apply ev_chain; walk_at "ev"; walk_at "ev"; walk_at "rv"; walk_at "ev"; walk_at "rv") | (apply ev_op; walk_at "ev"; walk_at "ev"; walk_at "rv"))
/-! ### all choices: plain mathematics -/
def choicesTo (bk : Bk) (k : Nat) : Nat → List (List Nat)
  | 0 => [[]]
  | n + 1 => choicesTo bk k n ++ ((choicesTo bk k n).filter fun c => decide (crowd bk (c ++ [n]) ≤ k)).map (· ++ [n])
theorem crowd_init (bk : Bk) (c : List Nat) (i : Nat) {k : Nat} (h : crowd bk (c ++ [i]) ≤ k) : crowd bk c ≤ k := by
  refine crowd_all.mpr fun m => Nat.le_trans ?_ (crowd_all.mp h m)
  unfold load
  rw [List.filter_append, List.length_append]
  omega
theorem crowd_nil (bk : Bk) : crowd bk [] = 0 := rfl
theorem mem_choices {bk : Bk} {k : Nat} : ∀ (n : Nat) (c : List Nat), c ∈ choicesTo bk k n ↔ Rising n c ∧ crowd bk c ≤ k
  | 0, c => by
    unfold choicesTo
    rw [List.mem_singleton]
    constructor
    · rintro rfl
      exact ⟨⟨.nil, fun i h => by cases h⟩, by rw [crowd_nil]; omega⟩
    · rintro ⟨⟨_, h⟩, _⟩
      cases c with
      | nil => rfl
      | cons i c => exact absurd (h i List.mem_cons_self) (Nat.not_lt_zero _)
  | n + 1, c => by
    unfold choicesTo
    rw [List.mem_append, List.mem_map]
    constructor
    · rintro (h | ⟨d, hd, rfl⟩)
      · obtain ⟨⟨h1, h2⟩, h3⟩ := (mem_choices n c).mp h
        exact ⟨⟨h1, fun i hi => by have := h2 i hi; omega⟩, h3⟩
      · obtain ⟨hd1, hd2⟩ := List.mem_filter.mp hd
        obtain ⟨⟨h1, h2⟩, h3⟩ := (mem_choices n d).mp hd1
        refine ⟨⟨List.pairwise_append.mpr ⟨h1, List.pairwise_singleton _ _, fun x hx y hy => ?_⟩, fun i hi => ?_⟩, of_decide_eq_true hd2⟩
        · rw [List.mem_singleton.mp hy]
          exact h2 x hx
        · rcases List.mem_append.mp hi with hi | hi
          · have := h2 i hi; omega
          · rw [List.mem_singleton.mp hi]; omega
    · rintro ⟨⟨h1, h2⟩, h3⟩
      rcases List.eq_nil_or_concat c with rfl | ⟨d, x, rfl⟩
      · exact .inl ((mem_choices n []).mpr ⟨⟨.nil, fun i h => by cases h⟩, by rw [crowd_nil]; omega⟩)
      · rw [List.concat_eq_append] at h1 h2 h3 ⊢
        have hp := List.pairwise_append.mp h1
        have hx := h2 x (by simp)
        have hd : ∀ y ∈ d, y < x := fun y hy => hp.2.2 y hy x (by simp)
        by_cases e : x = n
        · subst e
          exact .inr ⟨d, List.mem_filter.mpr ⟨(mem_choices x d).mpr ⟨⟨hp.1, hd⟩, crowd_init bk d x h3⟩, decide_eq_true h3⟩, rfl⟩
        · refine .inl ((mem_choices n _).mpr ⟨⟨h1, fun y hy => ?_⟩, h3⟩)
          rcases List.mem_append.mp hy with hy | hy
          · have := hd y hy; omega
          · rw [List.mem_singleton.mp hy]; omega
theorem choices_len (bk : Bk) (k : Nat) : ∀ n, (choicesTo bk k n).length ≤ 2 ^ n
  | 0 => Nat.le_refl _
  | n + 1 => by
    have ih := choices_len bk k n
    unfold choicesTo
    rw [List.length_append, List.length_map, Nat.pow_succ]
    have := List.length_filter_le (fun c => decide (crowd bk (c ++ [n]) ≤ k)) (choicesTo bk k n)
    omega
theorem rising_len {n : Nat} {c : List Nat} (h : Rising n c) : c.length ≤ n := by
  have := (rising_sub n c h).length_le
  rwa [List.length_range] at this
theorem filterMap_ifm {α β : Type} (p : α → Bool) (f : α → β) : ∀ l : List α, l.filterMap (fun a => if p a = true then some (f a) else none) = (l.filter p).map f
  | [] => rfl
  | a :: l => by
    rw [List.filterMap_cons, List.filter_cons, filterMap_ifm p f l]
    by_cases h : p a = true
    · rw [if_pos h, if_pos h]; rfl
    · rw [if_neg h, if_neg h]
section
variable {P : Program} {w : World} {K : Frg} {mg : Str → Option Value} {base : Heap}
section
variable {σ : L2.St} {H B : Hp} {ta tb te : TE} {D : Ends} {tz : TS}
theorem el_cat1 {a : Addr} {xs ys : List V} (ha : Ev ta σ H (.ref a)) (h : H a = some (.lst xs)) (hb : EvL tb σ H ys) (hl : xs.length + ys.length ≤ 100000) : EvL (tOp rCat ta tb) σ H (xs ++ ys) := fun H1 e Q q =>
  ha H1 e _ fun H2 e2 => hb H2 (e.trans e2) _ fun p H3 hp e3 h3 => ⟨a, p, xs, ys, rfl, rfl, ((e.trans e2).trans e3) _ _ h, h3, sz_of hl, fun d hd => q d _ (fresh_back (e2.trans e3) hd) ((e2.trans e3).trans (Ex.new hd)) upd_same⟩
theorem c_lst1L {i : Nat} {xs : List V} (h : EvL te σ H xs) (k : ∀ t p H1, H t = none → H p = none → Ex H H1 → H1 t = some (.lst xs) → H1 p = some (.lst [.ref t]) → tz D (σ.set i (some (.ref p))) H1) : tSeq (tAsg (tLst (tCons te tNil)) (gName i)) tz D σ H :=
  h H (Ex.refl H) _ fun t H1 ht e h1 => ⟨by show 1 ≤ sizeLine; decide, fun p hp => by
    refine k t p _ ht (fresh_back e hp) (e.trans (Ex.new hp)) ?_ upd_same
    rw [upd_ne (fun z => by rw [← z, h1] at hp; cases hp)]
    exact h1⟩
theorem c_cb1 {i : Nat} {xs : List V} {r : List V → Hp → VK → Prop} (h : EvL te σ H xs) (k : ∀ p H1, H p = none → Ex H H1 → H1 p = some (.lst xs) → r [.ref p] H1 (fun v H2 => tz D (σ.set i (some v)) H2)) : tSeq (tAsg (tCB r (tCons te tNil)) (gName i)) tz D σ H :=
  h H (Ex.refl H) _ fun p H1 hp e h1 => k p H1 hp e h1
end
/-! ### _law_load -/
def sp_law_load (K : Frg) : Sp := fun vs H Q _ => ∃ (x y : V) (bk : Bk) (c : List Nat) (m : Int), vs = [x, y, .int m] ∧ rLst K (rStt K) H x bk ∧ rLst K rNat H y c ∧ (∀ i ∈ c, i < bk.length) ∧ c.length ≤ 24 ∧ RetV (.int (load bk c m : Int)) H Q
theorem ok_law_load (T : Txt K mg) : FnOk P w K mg base CX0 1 T.d_law_load.f T.d_law_load.fd ["_law_book_here", "_law_some", "_law_moment"] (sp_law_load K) := by
  refine T.d_law_load.F.ok sc_law_load (fun vs H Q E h => ?_) (fun cdv A outer s H vs Q E hr h => ?_)
  · obtain ⟨x, y, bk, c, m, rfl, _⟩ := h
    rfl
  · obtain ⟨x, y, bk, c, m, rfl, hx, hy, hc, few, q⟩ := h
    refine ⟨_, (pss_one (ps_ret (pe_callB (kLen K) rfl T.n_len (by decide +kernel) (pa_cons (pe_lc (own := [("_law_i", 3)]) (g := gName 3) rfl sc_law_load.nd (kPiL K (pv 1)) (blkOk_by (own := [("_law_i", 3)]) (N := N_law_load) (sc := defScope S_law_load) (by decide +kernel)) (fun _ _ _ _ _ => (pg_name (i := 3) sc_law_load.nd rfl (Or.inl rfl))) (fun _ _ _ _ _ => (pts_one (PW.pt (pw_and (pt_cmpR op_le (pe_ix (kIxT K) (pe_ix (kIxL K) (pv 0) (pv 3) (fun _ _ => rfl)) pe_int (fun _ _ => rfl)) (pv 2) (nomark _)) (pw_and1 (pt_cmpR op_lt (pv 2) (pe_ix (kIxT K) (pe_ix (kIxL K) (pv 0) (pv 3) (fun _ _ => rfl)) pe_int (fun _ _ => rfl)) (nomark _))))))) (fun _ _ _ _ _ => (pv 3))) pa_nil)))), ?_⟩
    have key := el_lcU (K := K) (R := rNat) (H := H) (σ := start N_law_load [x, y, .int m]) (vs := [3]) (tl := tVar 1) (t := tAnd (tTest (tOp (rI0 fun i j => .bl (decide (i ≤ j))) (tOp (rIxT K) (tOp (rIxL K) (tVar 0) (tVar 3)) (tC (.int 1))) (tVar 2))) (tTest (tOp (rI0 fun i j => .bl (decide (i < j))) (tVar 2) (tOp (rIxT K) (tOp (rIxL K) (tVar 0) (tVar 3)) (tC (.int 2))))) ) (te := tVar 3) (g := gName 3)
      (fun i => over (stt bk i) m) (fun i : Nat => .int (i : Int)) (ev_var rfl) hy (by omega) (fun v i hi hv => by
        cases hv
        refine ⟨_, tg_name, rfl, fun H1 e => ?_, fun H1 e _ => ev_var rfl⟩
        obtain ⟨y2, ⟨t, n, e0, ht⟩, hi2⟩ := bk_ix (σ := (wipe (start N_law_load [x, y, .int m]) [3]).set 3 (some (.int (i : Int)))) (ta := tVar 0) (tb := tVar 3) (Mono.mono e hx) (ev_var rfl) (ev_var rfl) (hc i hi)
        subst e0
        exact et_and (et_test (ev_op (ev_op hi2 ev_c (rv_ixT ht rfl)) (ev_var rfl) rv_I0)) fun _ => et_test (ev_op (ev_var rfl) (ev_op hi2 ev_c (rv_ixT ht rfl)) rv_I0))
    refine s_ret (v := .int (load bk c m : Int)) (evl_cb key fun p H1 h1 => ?_) q
    have := rc_len (K := K) (sq_of h1)
    rw [List.length_map] at this
    exact this
theorem spv_law_load {x y : V} {bk : Bk} {c : List Nat} {m : Int} {H : Hp} (hx : rLst K (rStt K) H x bk) (hy : rLst K rNat H y c) (hc : ∀ i ∈ c, i < bk.length) (few : c.length ≤ 24) : SpV (sp_law_load K) [x, y, .int m] H (.int (load bk c m : Int)) := fun H1 e Q q _ => ⟨x, y, bk, c, m, rfl, Mono.mono e hx, Mono.mono e hy, hc, few, q⟩
/-! ### _law_fits -/
def sp_law_fits (K : Frg) : Sp := fun vs H Q _ => ∃ (x y : V) (bk : Bk) (c : List Nat) (k : Nat), vs = [x, y, .int (k : Int)] ∧ rLst K (rStt K) H x bk ∧ rLst K rNat H y c ∧ (∀ i ∈ c, i < bk.length) ∧ c.length ≤ 24 ∧ RetV (.bl (decide (crowd bk c ≤ k))) H Q
theorem ok_law_fits (T : Txt K mg) : FnOk P w K mg base CX0 2 T.d_law_fits.f T.d_law_fits.fd ["_law_book_here", "_law_some", "_law_benches"] (sp_law_fits K) := by
  refine T.d_law_fits.F.ok sc_law_fits (fun vs H Q E h => ?_) (fun cdv A outer s H vs Q E hr h => ?_)
  · obtain ⟨x, y, bk, c, k, rfl, _⟩ := h
    rfl
  · obtain ⟨x, y, bk, c, k, rfl, hx, hy, hc, few, q⟩ := h
    refine ⟨_, (pss_one (ps_ret (pe_cmpR (kEqD K hr.units) (pe_lc (own := [("_law_i", 3)]) (g := gName 3) rfl sc_law_fits.nd (kPiL K (pv 1)) (blkOk_by (own := [("_law_i", 3)]) (N := N_law_fits) (sc := defScope S_law_fits) (by decide +kernel)) (fun _ _ _ _ _ => (pg_name (i := 3) sc_law_fits.nd rfl (Or.inl rfl))) (fun _ _ _ _ _ => (pts_one (pt_cmpR op_gt (pe_call (ok_law_load T) (hr.mono (by decide)) rfl T.d_law_load.m T.d_law_load.F.kp T.d_law_load.b .nil pass0 (pa_cons (pv 0) (pa_cons (pv 1) (pa_cons (pe_ix (kIxT K) (pe_ix (kIxL K) (pv 0) (pv 3) (fun _ _ => rfl)) pe_int (fun _ _ => rfl)) pa_nil)))) (pv 2) (nomark _)))) (fun _ _ _ _ _ => (pv 3))) (pe_lst pa_nil) (nomark _)))), ?_⟩
    have key := el_lcU (K := K) (R := rNat) (H := H) (σ := start N_law_fits [x, y, .int (k : Int)]) (vs := [3]) (tl := tVar 1) (t := tTest (tOp (rI0 fun i j => .bl (decide (j < i))) (tCall (sp_law_load K) [] E0 (tCons (tVar 0) (tCons (tVar 1) (tCons (tOp (rIxT K) (tOp (rIxL K) (tVar 0) (tVar 3)) (tC (.int 1))) tNil)))) (tVar 2))) (te := tVar 3) (g := gName 3)
      (fun i => decide ((k : Int) < (load bk c (stt bk i).1 : Int))) (fun i : Nat => .int (i : Int)) (ev_var rfl) hy (by omega) (fun v i hi hv => by
        cases hv
        refine ⟨_, tg_name, rfl, fun H1 e => ?_, fun H1 e _ => ev_var rfl⟩
        obtain ⟨y2, ⟨t, n, e0, ht⟩, hi2⟩ := bk_ix (σ := (wipe (start N_law_fits [x, y, .int (k : Int)]) [3]).set 3 (some (.int (i : Int)))) (ta := tVar 0) (tb := tVar 3) (Mono.mono e hx) (ev_var rfl) (ev_var rfl) (hc i hi)
        subst e0
        exact et_test (ev_op (ev_call (ea_cons (ev_var rfl) (ea_cons (ev_var rfl) (ea_cons (ev_op hi2 ev_c (rv_ixT ht rfl)) ea_nil))) (spv_law_load (Mono.mono e hx) (Mono.mono e hy) hc few)) (ev_var rfl) rv_I0))
    have e1 : ((c.filter fun i => decide ((k : Int) < (load bk c (stt bk i).1 : Int))).map fun i : Nat => V.int (i : Int)) = ((c.filter fun i => decide ((k : Int) < (load bk c (stt bk i).1 : Int))).map fun i : Nat => (i : Int)).map V.int := by rw [List.map_map]; rfl
    rw [e1] at key
    generalize hns : (c.filter fun i => decide ((k : Int) < (load bk c (stt bk i).1 : Int))).map (fun i : Nat => (i : Int)) = ns at key
    have hz : decide (ns = []) = decide (crowd bk c ≤ k) := by
      rw [Bool.eq_iff_iff, decide_eq_true_iff, decide_eq_true_iff, crowd_le, ← hns, List.map_eq_nil_iff, List.filter_eq_nil_iff]
      constructor
      · intro h i hi
        have := h i hi
        rw [decide_eq_true_iff] at this
        omega
      · intro h i hi
        have := h i hi
        rw [decide_eq_true_iff]
        omega
    refine s_ret (v := .bl (decide (crowd bk c ≤ k))) (ev_is (ev_opLL (ys := []) key (el_lst ea_nil (by simp)) fun p r H1 h1 h2 e => rv_eqD (d := dInts ns) (e := dInts []) (fun H2 e2 => dp_ints (sq_of (e2 _ _ h1))) (fun H2 e2 => dp_ints (sq_of (e2 _ _ h2))) (shaped_ints ns) (shaped_ints [])) ?_) q
    rw [eqv_ints, hz]
theorem spv_law_fits {x y : V} {bk : Bk} {c : List Nat} {k : Nat} {H : Hp} (hx : rLst K (rStt K) H x bk) (hy : rLst K rNat H y c) (hc : ∀ i ∈ c, i < bk.length) (few : c.length ≤ 24) : SpV (sp_law_fits K) [x, y, .int (k : Int)] H (.bl (decide (crowd bk c ≤ k))) := fun H1 e Q q _ => ⟨x, y, bk, c, k, rfl, Mono.mono e hx, Mono.mono e hy, hc, few, q⟩
/-! ### _law_worth -/
def sp_law_worth (K : Frg) : Sp := fun vs H Q _ => ∃ (x y : V) (bk : Bk) (c : List Nat), vs = [x, y] ∧ rLst K (rStt K) H x bk ∧ rLst K rNat H y c ∧ (∀ i ∈ c, i < bk.length) ∧ c.length ≤ 24 ∧ RetV (.int (worth bk c)) H Q
theorem ok_law_worth (T : Txt K mg) : FnOk P w K mg base CX0 1 T.d_law_worth.f T.d_law_worth.fd ["_law_book_here", "_law_some"] (sp_law_worth K) := by
  refine T.d_law_worth.F.ok sc_law_worth (fun vs H Q E h => ?_) (fun cdv A outer s H vs Q E hr h => ?_)
  · obtain ⟨x, y, bk, c, rfl, _⟩ := h
    rfl
  · obtain ⟨x, y, bk, c, rfl, hx, hy, hc, few, q⟩ := h
    refine ⟨_, (pss_one (ps_ret (pe_callB (kSum K rfl) rfl T.n_sum (by decide +kernel) (pa_cons (pe_lc (own := [("_law_i", 2)]) (g := gName 2) (tt := tYes) rfl sc_law_worth.nd (kPiL K (pv 1)) (blkOk_by (own := [("_law_i", 2)]) (N := N_law_worth) (sc := defScope S_law_worth) (by decide +kernel)) (fun _ _ _ _ _ => (pg_name (i := 2) sc_law_worth.nd rfl (Or.inl rfl))) (fun _ _ _ _ _ => pts_nil) (fun _ _ _ _ _ => (pe_ix (kIxT K) (pe_ix (kIxL K) (pv 0) (pv 2) (fun _ _ => rfl)) pe_int (fun _ _ => rfl)))) pa_nil)))), ?_⟩
    have key := el_lcU (K := K) (R := rNat) (H := H) (σ := start N_law_worth [x, y]) (vs := [2]) (tl := tVar 1) (t := tYes) (te := tOp (rIxT K) (tOp (rIxL K) (tVar 0) (tVar 2)) (tC (.int 3))) (g := gName 2)
      (fun _ => true) (fun i : Nat => .int (stt bk i).2.2) (ev_var rfl) hy (by omega) (fun v i hi hv => by
        cases hv
        refine ⟨_, tg_name, rfl, fun H1 e => et_yes, fun H1 e _ => ?_⟩
        obtain ⟨y2, ⟨t, n, e0, ht⟩, hi2⟩ := bk_ix (σ := (wipe (start N_law_worth [x, y]) [2]).set 2 (some (.int (i : Int)))) (ta := tVar 0) (tb := tVar 2) (Mono.mono e hx) (ev_var rfl) (ev_var rfl) (hc i hi)
        subst e0
        exact ev_op hi2 ev_c (rv_ixT ht rfl))
    rw [filter_true] at key
    refine s_ret (v := .int (worth bk c)) (evl_cb key fun p H1 h1 => ?_) q
    exact rc_sum (ns := c.map fun i => (stt bk i).2.2) (sq_of (by rw [h1, List.map_map]; rfl))
theorem spv_law_worth {x y : V} {bk : Bk} {c : List Nat} {H : Hp} (hx : rLst K (rStt K) H x bk) (hy : rLst K rNat H y c) (hc : ∀ i ∈ c, i < bk.length) (few : c.length ≤ 24) : SpV (sp_law_worth K) [x, y] H (.int (worth bk c)) := fun H1 e Q q _ => ⟨x, y, bk, c, rfl, Mono.mono e hx, Mono.mono e hy, hc, few, q⟩
/-! ### _law_choices -/
def sp_law_choices (K : Frg) : Sp := fun vs H Q _ => ∃ (x : V) (bk : Bk) (k : Nat), vs = [x, .int (k : Int)] ∧ rLst K (rStt K) H x bk ∧ bk.length ≤ 8 ∧ RetN (fun G v => rTL (rTL rNat) G v (choicesTo bk k bk.length)) H Q
theorem ok_law_choices (T : Txt K mg) : FnOk P w K mg base CX0 3 T.d_law_choices.f T.d_law_choices.fd ["_law_book_here", "_law_benches"] (sp_law_choices K) := by
  refine T.d_law_choices.F.ok sc_law_choices (fun vs H Q E h => ?_) (fun cdv A outer s H vs Q E hr h => ?_)
  · obtain ⟨x, bk, k, rfl, _⟩ := h
    rfl
  · obtain ⟨x, bk, k, rfl, hx, few, q⟩ := h
    refine ⟨_, (pss_cons (ps_set (i := 2) sc_law_choices.nd rfl (Or.inl rfl) (pe_lst (pa_cons (pe_lst pa_nil) pa_nil)))
      (pss_cons (ps_for PassesOwn.never rfl (pi_range1 rfl T.n_range (pa_cons (pe_callB (kLen K) rfl T.n_len (by decide +kernel) (pa_cons (pv 0) pa_nil)) pa_nil)) (pg_name (i := 3) sc_law_choices.nd rfl (Or.inr rfl))
      (pss_one (ps_set (i := 2) sc_law_choices.nd rfl (Or.inl rfl) (pe_op op_cat (pv 2) (pe_lc (own := [("_law_some", 4)]) (g := gName 4) rfl sc_law_choices.nd (kPiL K (pv 2)) (blkOk_by (own := [("_law_some", 4)]) (N := N_law_choices) (sc := defScope S_law_choices) (by decide +kernel)) (fun _ _ _ _ _ => (pg_name (i := 4) sc_law_choices.nd rfl (Or.inl rfl))) (fun _ _ _ _ _ => (pts_one (pt_val (pe_call (ok_law_fits T) (hr.mono (by decide)) rfl T.d_law_fits.m T.d_law_fits.F.kp T.d_law_fits.b .nil pass0 (pa_cons (pv 0) (pa_cons (pe_op op_cat (pv 4) (pe_lst (pa_cons (pv 3) pa_nil))) (pa_cons (pv 1) pa_nil))))))) (fun _ _ _ _ _ => (pe_op op_cat (pv 4) (pe_lst (pa_cons (pv 3) pa_nil)))))))))
      (pss_one (ps_ret (pv 2))))), ?_⟩
    refine c_lst1L (el_lst ea_nil (by simp)) fun t p H1 ht hp e1 h1 h2 => ?_
    refine q_forR1 (n := (bk.length : Int)) (ea_cons (lst_len (Mono.mono e1 hx) (ev_var rfl)) ea_nil) (by omega) (fun i σ' H' => ∃ (p : Addr) (v3 : Option V) (vs : List V), σ' = [some x, some (.int (k : Int)), some (.ref p), v3, none] ∧ Ex H H' ∧ H p = none ∧ H' p = some (.lst vs) ∧ All2 (rTL rNat (New H H')) vs (choicesTo bk k i))
      (fun H2 e2 => ⟨p, none, [.ref t], rfl, e1.trans e2, hp, e2 _ _ h2, All2.snoc All2.nil ⟨t, [], rfl, by rw [new_of ht]; exact e2 _ _ h1, All2.nil⟩⟩) ?_ ?_
    · rintro i σ' H' hi ⟨p, v3, vs, rfl, eH, hp, hv, hA⟩
      have hi2 : i < bk.length := by omega
      have hA' : All2 (rTL rNat H') vs (choicesTo bk k i) := hA.mono fun _ _ => Mono.mono new_ex
      have len := choices_len bk k i
      have p8 : 2 ^ i ≤ 2 ^ 8 := Nat.pow_le_pow_right (by decide) (by omega)
      have key := evb_lcU (K := K) (R := rTL rNat) (S := rTL rNat) (H := H') (B := H) (σ := [some x, some (.int (k : Int)), some (.ref p), some (.int (i : Int)), none]) (vs := [4]) (tl := tVar 2) (t := tB (tCall (sp_law_fits K) [] E0 (tCons (tVar 0) (tCons (tOp rCat (tVar 4) (tLst (tCons (tVar 3) tNil))) (tCons (tVar 1) tNil))))) (te := tOp rCat (tVar 4) (tLst (tCons (tVar 3) tNil))) (g := gName 4)
        (fun c => if decide (crowd bk (c ++ [i]) ≤ k) = true then some (c ++ [i]) else none) (Sub.of eH) (ev_var rfl) ⟨p, vs, rfl, sq_of hv, hA'⟩ (by omega) (fun v c hc ⟨u, ws, e0, hu, hw⟩ => by
          subst e0
          obtain ⟨⟨r1, r2⟩, _⟩ := (mem_choices i c).mp hc
          have cl := rising_len ⟨r1, r2⟩
          have wl := hw.1
          have cat : ∀ {H1 : Hp}, Ex H' H1 → EvL (tOp rCat (tVar 4) (tLst (tCons (tVar 3) tNil))) [some x, some (.int (k : Int)), some (.ref p), some (.int (i : Int)), some (.ref u)] H1 (ws ++ [.int (i : Int)]) := fun e => el_cat1 (ev_var rfl) (e _ _ hu) (el_lst (ea_cons (ev_var rfl) ea_nil) (by simp)) (by simp; omega)
          have hw2 : ∀ G : Hp, All2 (rNat G) (ws ++ [.int (i : Int)]) (c ++ [i]) := fun G => All2.snoc hw rfl
          have rr : ∀ j ∈ c ++ [i], j < bk.length := fun j hj => by
            rcases List.mem_append.mp hj with h | h
            · have := r2 j h; omega
            · rw [List.mem_singleton.mp h]; exact hi2
          refine ⟨_, tg_name, rfl, fun H1 e => ?_, fun H1 B1 b e sB hb => ?_⟩
          · intro H2 e2 Q' q'
            refine ⟨_, rfl, cat (e.trans e2) H2 (Ex.refl _) _ fun p2 H3 hp2 e3 h3 => ⟨_, rfl, x, .ref p2, bk, c ++ [i], k, rfl, Mono.mono (((eH.trans e).trans e2).trans e3) hx, ⟨p2, _, rfl, sq_of h3, hw2 _⟩, rr, by rw [List.length_append]; simp; omega, fun H4 e4 => ⟨_, rfl, ?_⟩⟩⟩
            have : (if decide (crowd bk (c ++ [i]) ≤ k) = true then some (c ++ [i]) else none).isSome = decide (crowd bk (c ++ [i]) ≤ k) := by
              cases decide (crowd bk (c ++ [i]) ≤ k) <;> rfl
            have q2 := q' H4 (e3.trans e4)
            rw [this] at q2
            exact q2
          · have eb : b = c ++ [i] := by
              split at hb
              · exact (Option.some.inj hb).symm
              · cases hb
            subst eb
            exact evb_evl (cat e) sB fun G p2 h _ => ⟨p2, _, rfl, h, hw2 G⟩)
      rw [filterMap_ifm (fun c => decide (crowd bk (c ++ [i]) ≤ k)) (fun c => c ++ [i])] at key
      have hl2 : ((((choicesTo bk k i).filter fun c => decide (crowd bk (c ++ [i]) ≤ k)).map fun c => c ++ [i])).length ≤ 256 := by
        rw [List.length_map]
        exact Nat.le_trans (List.length_filter_le _ _) (Nat.le_trans len p8)
      refine b_asg (evb_cat (S := rTL rNat) (Sub.of eH) (ev_var rfl) hv hA key (by omega)) fun v H2 e2 ⟨p2, vs2, e0, hp2, hA2⟩ => ?_
      subst e0
      have n2 := new_some hp2
      exact ⟨p2, _, vs2, rfl, eH.trans e2, n2.1, n2.2, hA2⟩
    · rintro σ' H' ⟨p, v3, vs, rfl, eH, hp, hv, hA⟩
      rw [Int.toNat_natCast] at hA
      refine s_ret (v := .ref p) (ev_var rfl) fun H3 e3 => q _ H3 (eH.trans e3) ⟨p, vs, rfl, by rw [new_of hp]; exact e3 _ _ hv, hA.mono fun _ _ => Mono.mono (new_mono e3)⟩
theorem spn_law_choices {x : V} {bk : Bk} {k : Nat} {H : Hp} (hx : rLst K (rStt K) H x bk) (few : bk.length ≤ 8) : SpN (sp_law_choices K) [x, .int (k : Int)] H (fun G v => rTL (rTL rNat) G v (choicesTo bk k bk.length)) := fun H1 e Q q _ => ⟨x, bk, k, rfl, Mono.mono e hx, few, q⟩
end
end BW
/-! The law's own defs: one step told by all choices. -/
namespace BW
open PySem L2 Evl
local macro_rules | `(tactic| walk_at "at") => `(tactic| first | rfl | assumption | exact atI_nat (by assumption))
local macro_rules | `(tactic| walk_at "rv") => `(tactic| first | exact rv_I0 | exact rv_eq rfl | exact rv_ne rfl | exact rv_isN | exact rv_notN | exact rv_notB | exact rv_ixL (by assumption) (by walk_at "at") | exact rv_ixT (by assumption) (by walk_at "at") | exact rv_I (by omega))
local macro_rules | `(tactic| walk_at "ev") => `(tactic| first | exact ev_c | exact ev_var rfl | assumption | (apply ev_chain; walk_at "ev"; walk_at "ev"; walk_at "rv"; walk_at "ev"; walk_at "rv") | (apply ev_op; walk_at "ev"; walk_at "ev"; walk_at "rv"))
abbrev Fnd := Int × List Nat × Option (List Nat)
structure Told (bk : Bk) (k : Nat) (f : Fnd) : Prop where
  ok : StepOk bk k (f.1, f.2.1)
  most : ∀ c, Rising bk.length c → crowd bk c ≤ k → worth bk c ≤ f.1
  less : ∀ d, f.2.2 = some d → Rising bk.length d ∧ crowd bk d ≤ k ∧ worth bk d < f.1
def rOC (K : Frg) : Rep (Option (List Nat)) := fun H v o => match o with
  | none => v = .non
  | some d => rLst K rNat H v d
instance mOC {K : Frg} : Mono (rOC K) := ⟨fun {H H' v x} e h => by
  cases x with
  | none => exact h
  | some a => exact Mono.mono (R := rLst K rNat) e h⟩
def rFnd (K : Frg) : Rep Fnd := fun H v f => ∃ t y z, v = .ref t ∧ SqL K H t [.int f.1, y, z] ∧ rLst K rNat H y f.2.1 ∧ rOC K H z f.2.2
instance mFnd {K : Frg} : Mono (rFnd K) := ⟨fun e ⟨t, y, z, h1, h2, h3, h4⟩ => ⟨t, y, z, h1, ex_l e h2, Mono.mono e h3, Mono.mono e h4⟩⟩
/-- what is known of the items, whatever the heap -/
def fixR {α : Type} (R : V → α → Prop) : Rep α := fun _ v x => R v x
instance mFix {α : Type} {R : V → α → Prop} : Mono (fixR R) := ⟨fun _ h => h⟩
section
variable {P : Program} {w : World} {K : Frg} {mg : Str → Option Value} {base : Heap}
theorem c_lcU {β : Type} {S : Rep β} [Mono S] {σ : L2.St} {H B : Hp} {te tl : TE} {t : TT} {g : TG} {vs : List Nat} {D : Ends} {tz : TS} {i : Nat} {ys : List β}
    (h : EvB (tLc (iList K tl) g t te vs) σ H B (fun G y => rTL S G y ys)) (k : ∀ p ws H1, Ex H H1 → B p = none → H1 p = some (.lst ws) → All2 (S (New B H1)) ws ys → tz D (σ.set i (some (.ref p))) H1) : tSeq (tAsg (tLc (iList K tl) g t te vs) (gName i)) tz D σ H :=
  c_asg h fun v H1 e ⟨p, ws, e0, hp, hA⟩ => by
    subst e0
    have n := new_some hp
    exact k p ws H1 e n.1 n.2 hA
def sp_law_step (K : Frg) : Sp := fun vs H Q _ => ∃ (a : Addr) (x : V) (bk : Bk) (k : Nat), vs = [.ref a, x, .int (k : Int)] ∧ StAt a H ∧ rLst K (rStt K) (New (one a) H) x bk ∧ bk.length ≤ 8 ∧ ∀ f v H2, Told bk k f → StAt a H2 → KeptS a H H2 → rFnd K (New H H2) v f → Q v H2
theorem ok_law_step (T : Txt K mg) : FnOk P w K mg base CX0 4 T.d_law_step.f T.d_law_step.fd ["_law_state", "_law_book_here", "_law_benches"] (sp_law_step K) := by
  refine T.d_law_step.F.ok sc_law_step (fun vs H Q E h => ?_) (fun cdv A outer s H vs Q E hr h => ?_)
  · obtain ⟨a, x, bk, k, rfl, _⟩ := h
    rfl
  · obtain ⟨a, x, bk, k, rfl, hS, hx0, few, q⟩ := h
    refine ⟨_, (pss_cons (ps_set (i := 3) sc_law_step.nd rfl (Or.inl rfl) (pe_call (ok_law_choices T) (hr.mono (by decide)) rfl T.d_law_choices.m T.d_law_choices.F.kp T.d_law_choices.b .nil pass0 (pa_cons (pv 1) (pa_cons (pv 2) pa_nil))))
      (pss_cons (ps_set (i := 4) sc_law_step.nd rfl (Or.inr rfl) (pe_callB (kMax K rfl) rfl T.n_max (by decide +kernel) (pa_cons (pe_lc (own := [("_law_some", 7)]) (g := gName 7) (tt := tYes) rfl sc_law_step.nd (kPiL K (pv 3)) (blkOk_by (own := [("_law_some", 7)]) (N := N_law_step) (sc := defScope S_law_step) (by decide +kernel)) (fun _ _ _ _ _ => (pg_name (i := 7) sc_law_step.nd rfl (Or.inl rfl))) (fun _ _ _ _ _ => pts_nil) (fun _ _ _ _ _ => (pe_call (ok_law_worth T) (hr.mono (by decide)) rfl T.d_law_worth.m T.d_law_worth.F.kp T.d_law_worth.b .nil pass0 (pa_cons (pv 1) (pa_cons (pv 7) pa_nil))))) pa_nil)))
      (pss_cons (ps_setLc (i := 5) (own := [("_law_some", 7)]) (g := gName 7) rfl sc_law_step.nd rfl rfl (sw_true rfl rfl rfl (by decide +kernel)) (kPiL K (pv 3)) (blkOk_by (own := [("_law_some", 7)]) (N := N_law_step) (sc := defScope S_law_step) (by decide +kernel)) (fun _ _ _ _ _ => (pg_name (i := 7) sc_law_step.nd rfl (Or.inl rfl))) (fun _ _ _ _ _ => (pts_one (pt_cmpR op_eq (pe_call (ok_law_worth T) (hr.mono (by decide)) rfl T.d_law_worth.m T.d_law_worth.F.kp T.d_law_worth.b .nil pass0 (pa_cons (pv 1) (pa_cons (pv 7) pa_nil))) (pv 4) (nomark _)))) (fun _ _ _ _ _ => (pv 7)))
      (pss_cons (ps_setLc (i := 6) (own := [("_law_some", 7)]) (g := gName 7) rfl sc_law_step.nd rfl rfl (sw_true rfl rfl rfl (by decide +kernel)) (kPiL K (pv 3)) (blkOk_by (own := [("_law_some", 7)]) (N := N_law_step) (sc := defScope S_law_step) (by decide +kernel)) (fun _ _ _ _ _ => (pg_name (i := 7) sc_law_step.nd rfl (Or.inl rfl))) (fun _ _ _ _ _ => (pts_one (pt_cmpR op_lt (pe_call (ok_law_worth T) (hr.mono (by decide)) rfl T.d_law_worth.m T.d_law_worth.F.kp T.d_law_worth.b .nil pass0 (pa_cons (pv 1) (pa_cons (pv 7) pa_nil))) (pv 4) (nomark _)))) (fun _ _ _ _ _ => (pv 7)))
      (pss_one (ps_ret (pe_lst (pa_cons (pv 4) (pa_cons (pe_ix (kIxL K) (pv 5) (pe_call (ok_law_take T) (hr.mono (by decide)) rfl T.d_law_take.m T.d_law_take.F.kp T.d_law_take.b .nil pass0 (pa_cons (pv 0) (pa_cons (pe_callB (kLen K) rfl T.n_len (by decide +kernel) (pa_cons (pv 5) pa_nil)) pa_nil))) (fun _ _ => rfl)) (pa_cons (pe_ix (kIxL K) (pe_op op_cat (pv 6) (pe_lst (pa_cons pe_non pa_nil))) (pe_op op_mod (pe_call (ok_law_take T) (hr.mono (by decide)) rfl T.d_law_take.m T.d_law_take.F.kp T.d_law_take.b .nil pass0 (pa_cons (pv 0) (pa_cons pe_int pa_nil))) (pe_op op_add (pe_callB (kLen K) rfl T.n_len (by decide +kernel) (pa_cons (pv 6) pa_nil)) pe_int)) (fun _ _ => rfl)) pa_nil)))))))))), ?_⟩
    have hx : rLst K (rStt K) H x bk := Mono.mono new_ex hx0
    have len := choices_len bk k bk.length
    have p8 : 2 ^ bk.length ≤ 2 ^ 8 := Nat.pow_le_pow_right (by decide) few
    have e8 : 2 ^ 8 = 256 := by decide
    rw [e8] at p8
    have mem := fun c => mem_choices (bk := bk) (k := k) bk.length c
    -- the choices
    refine c_asg (evb_call (S := rTL (rTL rNat)) (Sub.refl H) (ea_cons (ev_var rfl) (ea_cons (ev_var rfl) ea_nil)) (spn_law_choices hx few)) fun v3 H1 e1 ⟨p3, ws, e0, hp3, hA3⟩ => ?_
    subst e0
    generalize hCH : choicesTo bk k bk.length = CH at hA3 mem len
    obtain ⟨f3, g3⟩ := new_some hp3
    have it : ∀ v c, rTL rNat (New H H1) v c → c ∈ CH → ∀ {H2 : Hp}, Ex H1 H2 → rLst K rNat H2 v c ∧ (∀ i ∈ c, i < bk.length) ∧ c.length ≤ 24 := fun v c r hc H2 e2 =>
      ⟨(Mono.mono (R := rTL rNat) (new_ex.trans e2) r : rTL rNat H2 v c).lst, ((mem c).mp hc).1.2, by have := rising_len ((mem c).mp hc).1; omega⟩
    have hl3 : ∀ {H2 : Hp}, Ex H1 H2 → rLst K (fixR fun v c => rTL rNat (New H H1) v c) H2 (.ref p3) CH := fun e2 => ⟨p3, ws, rfl, sq_of (e2 _ _ g3), hA3⟩
    have wv : ∀ {σ : L2.St} {v : V} {c : List Nat}, σ[1]? = some (some x) → σ[7]? = some (some v) → rTL rNat (New H H1) v c → c ∈ CH → ∀ {H2 : Hp}, Ex H1 H2 → Ev (tCall (sp_law_worth K) [] E0 (tCons (tVar 1) (tCons (tVar 7) tNil))) σ H2 (.int (worth bk c)) := fun {σ v c} s1 s7 r hc {H2} e2 => by
      obtain ⟨i1, i2, i3⟩ := it _ _ r hc e2
      exact ev_call (ea_cons (ev_var s1) (ea_cons (ev_var s7) ea_nil)) (spv_law_worth (Mono.mono (e1.trans e2) hx) i1 i2 i3)
    -- the most
    have ws7 := el_lcU (K := K) (R := fixR fun v c => rTL rNat (New H H1) v c) (H := H1) (σ := [some (.ref a), some x, some (.int (k : Int)), some (.ref p3), none, none, none, none]) (vs := [7]) (tl := tVar 3) (t := tYes) (te := tCall (sp_law_worth K) [] E0 (tCons (tVar 1) (tCons (tVar 7) tNil))) (g := gName 7)
      (fun _ => true) (fun c : List Nat => .int (worth bk c)) (ev_var rfl) (hl3 (Ex.refl _)) (by omega) (fun v c hc hv => ⟨_, tg_name, rfl, fun H2 _ => et_yes, fun H2 e _ => wv rfl rfl hv hc e⟩)
    rw [filter_true] at ws7
    refine c_cb1 ws7 fun p7 H2 hp7 e2 h7 => ⟨p7, CH.map (worth bk), rfl, sq_of (by rw [h7, List.map_map]; rfl), ?_, fun most hm hmax => ?_⟩
    · rw [List.length_map]
      exact List.length_pos_of_mem ((mem []).mpr ⟨⟨.nil, fun i h => by cases h⟩, by rw [crowd_nil]; omega⟩)
    have hmax' : ∀ c ∈ CH, worth bk c ≤ most := fun c hc => hmax _ (List.mem_map.mpr ⟨c, hc, rfl⟩)
    obtain ⟨c0, hc0, ec0⟩ := List.mem_map.mp hm
    -- the best
    have eS : ∀ {H' : Hp}, Ex H1 H' → Sub H H' := fun e => Sub.of (e1.trans e)
    have best := evb_lcU (K := K) (R := fixR fun v c => rTL rNat (New H H1) v c) (S := fixR fun v c => rTL rNat (New H H1) v c) (H := H2) (B := H) (σ := [some (.ref a), some x, some (.int (k : Int)), some (.ref p3), some (.int most), none, none, none]) (vs := [7]) (tl := tVar 3) (t := tTest (tOp rEq (tCall (sp_law_worth K) [] E0 (tCons (tVar 1) (tCons (tVar 7) tNil))) (tVar 4))) (te := tVar 7) (g := gName 7)
      (fun c => if decide (V.int (worth bk c) = V.int most) = true then some c else none) (eS e2) (ev_var rfl) (hl3 e2) (by omega) (fun v c hc hv => ⟨_, tg_name, rfl, fun H3 e => et_is (et_test (ev_op (wv rfl rfl hv hc (e2.trans e)) (ev_var rfl) (rv_eq rfl))) (by cases decide (V.int (worth bk c) = V.int most) <;> rfl), fun H3 B1 b e sB hb => by
        have eb : b = c := by
          split at hb
          · exact (Option.some.inj hb).symm
          · cases hb
        subst eb
        exact evb_ev (ev_var rfl) fun _ _ => hv⟩)
    rw [filterMap_if (fun c => decide (V.int (worth bk c) = V.int most))] at best
    refine c_lcU best fun p5 w5 H3 e3 f5 g5 hA5 => ?_
    have e13 := e2.trans e3
    have less := evb_lcU (K := K) (R := fixR fun v c => rTL rNat (New H H1) v c) (S := fixR fun v c => rTL rNat (New H H1) v c) (H := H3) (B := H) (σ := [some (.ref a), some x, some (.int (k : Int)), some (.ref p3), some (.int most), some (.ref p5), none, none]) (vs := [7]) (tl := tVar 3) (t := tTest (tOp (rI0 fun i j => .bl (decide (i < j))) (tCall (sp_law_worth K) [] E0 (tCons (tVar 1) (tCons (tVar 7) tNil))) (tVar 4))) (te := tVar 7) (g := gName 7)
      (fun c => if decide (worth bk c < most) = true then some c else none) (eS e13) (ev_var rfl) (hl3 e13) (by omega) (fun v c hc hv => ⟨_, tg_name, rfl, fun H4 e => et_is (et_test (ev_op (wv rfl rfl hv hc (e13.trans e)) (ev_var rfl) rv_I0)) (by cases decide (worth bk c < most) <;> rfl), fun H4 B1 b e sB hb => by
        have eb : b = c := by
          split at hb
          · exact (Option.some.inj hb).symm
          · cases hb
        subst eb
        exact evb_ev (ev_var rfl) fun _ _ => hv⟩)
    rw [filterMap_if (fun c => decide (worth bk c < most))] at less
    refine c_lcU less fun p6 w6 H4 e4 f6 g6 hA6 => ?_
    have e14 := e13.trans e4
    have mem5 : ∀ c, c ∈ CH.filter (fun c => decide (V.int (worth bk c) = V.int most)) → c ∈ CH ∧ worth bk c = most := fun c hc => by
      obtain ⟨h1, h2⟩ := List.mem_filter.mp hc
      have h3 := of_decide_eq_true h2
      injection h3 with h3
      exact ⟨h1, h3⟩
    have mem6 : ∀ c, c ∈ CH.filter (fun c => decide (worth bk c < most)) → c ∈ CH ∧ worth bk c < most := fun c hc => by
      obtain ⟨h1, h2⟩ := List.mem_filter.mp hc
      exact ⟨h1, of_decide_eq_true h2⟩
    have pos5 : 0 < (CH.filter (fun c => decide (V.int (worth bk c) = V.int most))).length := List.length_pos_of_mem (List.mem_filter.mpr ⟨hc0, by rw [ec0]; exact decide_eq_true rfl⟩)
    have l5 : (CH.filter (fun c => decide (V.int (worth bk c) = V.int most))).length ≤ 256 := Nat.le_trans (List.length_filter_le _ _) (by omega)
    have l6 : (CH.filter (fun c => decide (worth bk c < most))).length ≤ 256 := Nat.le_trans (List.length_filter_le _ _) (by omega)
    generalize CH.filter (fun c => decide (V.int (worth bk c) = V.int most)) = B5 at hA5 mem5 pos5 l5
    generalize CH.filter (fun c => decide (worth bk c < most)) = B6 at hA6 mem6 l6
    have E4 := e1.trans e14
    obtain ⟨x1, x2, x3, hSa, _⟩ := id hS
    have S4 := hS.mono E4
    have na5 : p5 ≠ a := fun z => by rw [z, hSa] at f5; cases f5
    have na6 : p6 ≠ a := fun z => by rw [z, hSa] at f6; cases f6
    have len5 : Ev (tCB (rLenS K) (tCons (tVar 5) tNil)) [some (.ref a), some x, some (.int (k : Int)), some (.ref p3), some (.int most), some (.ref p5), some (.ref p6), none] (New (one a) H4) (.int (B5.length : Int)) := by
      have := ev_cb (ta := tCons (tVar 5) tNil) (σ := [some (.ref a), some x, some (.int (k : Int)), some (.ref p3), some (.int most), some (.ref p5), some (.ref p6), none]) (ea_cons (ev_var rfl) ea_nil) (rc_len (K := K) (H := New (one a) H4) (sq_of (a := p5) (xs := w5) (by rw [new_of (one_ne na5)]; exact e4 _ _ g5)))
      rwa [hA5.1] at this
    have t5 := evs_take (K := K) (σ := [some (.ref a), some x, some (.int (k : Int)), some (.ref p3), some (.int most), some (.ref p5), some (.ref p6), none]) (a := a) (H := H4) (ta := tVar 0) (P1 := fun m => m = (B5.length : Int)) (M := (B5.length : Int)) (ev_var rfl) (evs_ev len5 rfl) (fun m e => by omega) (by omega)
    refine ⟨_, rfl, _, rfl, t5 H4 (KeptS.refl _ _) S4 _ fun r H5 pr s5 k5 => ?_⟩
    obtain ⟨j, rfl⟩ := Int.eq_ofNat_of_zero_le pr.1
    have hj : j < B5.length := by omega
    obtain ⟨v5, hv5, rv5⟩ := hA5.at_ (List.getElem?_eq_getElem hj)
    have rv5' : rTL rNat (New H H1) v5 B5[j] := rv5
    have g5' : H5 p5 = some (.lst w5) := one_at k5 na5 (e4 _ _ g5)
    refine ⟨p5, w5, (j : Int), v5, rfl, rfl, sq_of g5', atI_nat hv5, ?_⟩
    -- the lesser
    have g6' : H5 p6 = some (.lst w6) := one_at k5 na6 g6
    have cat := el_cat1 (σ := [some (.ref a), some x, some (.int (k : Int)), some (.ref p3), some (.int most), some (.ref p5), some (.ref p6), none]) (H := H5) (ta := tVar 6) (tb := tLst (tCons (tC .non) tNil)) (ev_var rfl) g6' (el_lst (ea_cons ev_c ea_nil) (by simp)) (by rw [hA6.1]; simp; omega)
    refine cat H5 (Ex.refl _) _ fun p9 H6 hp9 e6 h9 => ?_
    have S6 := s5.mono e6
    have k6 : KeptS a H4 H6 := k5.trans (KeptS.of e6)
    have t7 := evs_takeC (K := K) (σ := [some (.ref a), some x, some (.int (k : Int)), some (.ref p3), some (.int most), some (.ref p5), some (.ref p6), none]) (a := a) (H := H6) (ta := tVar 0) (tm := tC (.int 7)) (ev_var rfl) ev_c (by decide) (by decide)
    have na9 : p9 ≠ a := fun z => by
      obtain ⟨_, _, _, g, _⟩ := s5
      rw [z, g] at hp9
      cases hp9
    refine t7 H6 (KeptS.refl _ _) S6 _ fun r7 H7 pr7 s7 k7 => ?_
    have g6'' : H7 p6 = some (.lst w6) := one_at k7 na6 (e6 _ _ g6')
    have g9 : H7 p9 = some (.lst (w6 ++ [.non])) := one_at k7 na9 h9
    have len6 : Ev (tOp (rI0 fun i j => .int (i + j)) (tCB (rLenS K) (tCons (tVar 6) tNil)) (tC (.int 1))) [some (.ref a), some x, some (.int (k : Int)), some (.ref p3), some (.int most), some (.ref p5), some (.ref p6), none] H7 (.int ((w6.length : Int) + 1)) := ev_op (ev_cb (ea_cons (ev_var rfl) ea_nil) (rc_len (K := K) (sq_of g6''))) ev_c rv_I0
    refine len6 H7 (Ex.refl _) _ fun H8 e8' => ⟨r7, (w6.length : Int) + 1, rfl, rfl, by omega, ?_⟩
    have m0 := Int.emod_nonneg r7 (show (w6.length : Int) + 1 ≠ 0 by omega)
    have m1 := Int.emod_lt_of_pos r7 (show (0 : Int) < (w6.length : Int) + 1 by omega)
    obtain ⟨i, hi⟩ := Int.eq_ofNat_of_zero_le m0
    have hi' : i < (w6 ++ [V.non]).length := by rw [List.length_append]; simp; omega
    refine ⟨p9, w6 ++ [.non], (i : Int), (w6 ++ [.non])[i], rfl, congrArg V.int hi, sq_of (e8' _ _ g9), atI_nat (List.getElem?_eq_getElem hi'), ?_⟩
    refine ⟨by show 3 ≤ sizeLine; decide, fun p hp => ?_⟩
    -- the end
    have K8 : KeptS a H4 (upd H8 p (.lst [.int most, v5, (w6 ++ [V.non])[i]])) := (k6.trans k7).trans ((KeptS.of e8').trans (KeptS.of (Ex.new hp)))
    have ba : H a = some (.lst [.int x1, .int x2, .int x3]) := hSa
    have NN : Ex (New H H1) (New H (upd H8 p (.lst [.int most, v5, (w6 ++ [V.non])[i]]))) := (new_mono e14).trans (keptN ba K8)
    obtain ⟨b1, b2⟩ := mem5 _ (List.getElem_mem hj)
    have hp0 : H p = none := by
      cases hq : H p with
      | none => rfl
      | some o =>
        by_cases epa : p = a
        · obtain ⟨_, _, _, g, _⟩ := s7.mono e8'
          rw [epa, g] at hp
          cases hp
        · have : H8 p = some o := one_at ((k6.trans k7).trans (KeptS.of e8')) epa (E4 _ _ hq)
          rw [this] at hp
          cases hp
    have les : ∃ lo : Option (List Nat), rOC K (New H (upd H8 p (.lst [.int most, v5, (w6 ++ [V.non])[i]]))) (w6 ++ [V.non])[i] lo ∧ ∀ d, lo = some d → d ∈ CH ∧ worth bk d < most := by
      by_cases hlt : i < w6.length
      · have hi6 : i < B6.length := by rw [← hA6.1]; exact hlt
        obtain ⟨v6, hv6, rv6⟩ := hA6.at_ (List.getElem?_eq_getElem hi6)
        have rv6' : rTL rNat (New H H1) v6 B6[i] := rv6
        have ev : (w6 ++ [V.non])[i] = v6 := by
          rw [List.getElem_append_left hlt]
          rw [List.getElem?_eq_getElem hlt] at hv6
          exact Option.some.inj hv6
        rw [ev] at NN ⊢
        refine ⟨some B6[i], (Mono.mono (R := rTL rNat) NN rv6').lst, fun d hd => ?_⟩
        cases hd
        exact mem6 _ (List.getElem_mem hi6)
      · have ei : (w6 ++ [V.non])[i] = V.non := by
          rw [List.getElem_append_right (by omega)]
          simp
        exact ⟨none, ei, fun d hd => by cases hd⟩
    obtain ⟨lo, hlo, hlo2⟩ := les
    refine q (most, B5[j], lo) _ _ ⟨⟨((mem _).mp b1).1, ((mem _).mp b1).2, b2.symm⟩, fun c h1 h2 => hmax' c ((mem c).mpr ⟨h1, h2⟩), fun d hd => ?_⟩ ((s7.mono e8').mono (Ex.new hp)) ((KeptS.of E4).trans K8) ⟨p, v5, _, rfl, sq_of (by rw [new_of hp0, upd_same]), (Mono.mono (R := rTL rNat) NN rv5').lst, hlo⟩
    obtain ⟨d1, d2⟩ := hlo2 d hd
    exact ⟨((mem d).mp d1).1, ((mem d).mp d1).2, d2⟩
end
end BW
/-! What the law itself looks at: plain mathematics, and the readings' helpers. -/
namespace BW
open PySem L2 Evl
local macro_rules | `(tactic| walk_at "at") => `(tactic| first | rfl | assumption | exact atI_nat (by assumption))
local macro_rules | `(tactic| walk_at "rv") => `(tactic| first | exact rv_I0 | exact rv_eq rfl | exact rv_ne rfl | exact rv_isN | exact rv_notN | exact rv_notB | exact rv_ixL (by assumption) (by walk_at "at") | exact rv_ixT (by assumption) (by walk_at "at") | exact rv_I (by omega))
local macro_rules | `(tactic| walk_at "ev") => `(tactic| first | exact ev_c | exact ev_var rfl | assumption | (apply ev_chain; walk_at "ev"; walk_at "ev"; walk_at "rv"; walk_at "ev"; walk_at "rv") | (apply ev_op; walk_at "ev"; walk_at "ev"; walk_at "rv"))
/-! ### plain -/
def fnd0 : Fnd := (0, [], none)
def ownOf (fs : List Fnd) (st : Steps) : Steps := (fs.map fun f => (f.1, f.2.1)) ++ st.drop 5
theorem told_w {bk : Bk} {st : Steps} {pp : List Paper} (R : RowOk bk st pp) {k : Nat} (hk : k < st.length) {f : Fnd} (T : Told bk k f) : f.1 = stepW st k := by
  have h1 := R.most hk T.ok.r T.ok.c
  have h2 := R.ch k hk
  have h3 := T.most _ h2.r h2.c
  have h4 := T.ok.w
  have h5 := h2.w
  unfold stepW at *
  dsimp only at *
  omega
section
variable {bk : Bk} {st : Steps} {pp : List Paper} {fs : List Fnd}
theorem own_len (hl : fs.length = min st.length 5) : (ownOf fs st).length = st.length := by
  unfold ownOf
  rw [List.length_append, List.length_map, List.length_drop, hl]
  omega
theorem own_at (hl : fs.length = min st.length 5) {k : Nat} (hk : k < st.length) : (k < fs.length ∧ (ownOf fs st).getD k (0, []) = ((fs.getD k fnd0).1, (fs.getD k fnd0).2.1)) ∨ (ownOf fs st).getD k (0, []) = st.getD k (0, []) := by
  unfold ownOf
  by_cases h : k < fs.length
  · refine .inl ⟨h, ?_⟩
    rw [List.getD_eq_getElem?_getD, List.getElem?_append_left (by rw [List.length_map]; exact h), List.getElem?_map, List.getD_eq_getElem?_getD, List.getElem?_eq_getElem h]
    rfl
  · refine .inr ?_
    rw [List.getD_eq_getElem?_getD, List.getElem?_append_right (by rw [List.length_map]; omega), List.length_map, List.getElem?_drop, List.getD_eq_getElem?_getD]
    congr 2
    omega
theorem own_ok (R : RowOk bk st pp) (hl : fs.length = min st.length 5) (T : ∀ j, j < fs.length → Told bk j (fs.getD j fnd0)) {k : Nat} (hk : k < st.length) : stepW (ownOf fs st) k = stepW st k ∧ StepOk bk k ((ownOf fs st).getD k (0, [])) := by
  rcases own_at hl hk with ⟨h, e⟩ | e
  · unfold stepW
    rw [e]
    exact ⟨told_w R hk (T k h), (T k h).ok⟩
  · unfold stepW
    rw [e]
    exact ⟨rfl, R.ch k hk⟩
theorem own_row (R : RowOk bk st pp) (hl : fs.length = min st.length 5) (T : ∀ j, j < fs.length → Told bk j (fs.getD j fnd0)) : RowOk bk (ownOf fs st) pp := by
  have ln := own_len (st := st) hl
  refine ⟨by rw [ln]; exact R.sl, R.pl, by rw [ln]; exact fun k hk => (own_ok R hl T hk).2, by rw [ln]; exact R.pa, ?_, ?_, R.last⟩
  · rw [ln]
    intro k hk
    rw [(own_ok R hl T hk).1]
    exact R.c0 k hk
  · rw [ln]
    intro k hk
    rw [(own_ok R hl T hk).1]
    exact R.c1 k hk
theorem own_map (R : RowOk bk st pp) (hl : fs.length = min st.length 5) (T : ∀ j, j < fs.length → Told bk j (fs.getD j fnd0)) : (ownOf fs st).map (·.1) = st.map (·.1) := by
  have ln := own_len (st := st) hl
  apply List.ext_getElem
  · rw [List.length_map, List.length_map, ln]
  · intro i h1 h2
    rw [List.length_map] at h1 h2
    have := (own_ok R hl T h2).1
    unfold stepW at this
    rw [List.getD_eq_getElem?_getD, List.getD_eq_getElem?_getD, List.getElem?_eq_getElem h1, List.getElem?_eq_getElem h2] at this
    rw [List.getElem_map, List.getElem_map]
    exact this
def worseOf (own : Steps) (b : Nat) (x : Int × List Nat) : Steps := own.take b ++ [x] ++ own.drop (b + 1)
theorem worse_at {own : Steps} {b : Nat} {x : Int × List Nat} (hb : b < own.length) : stepW (worseOf own b x) b = x.1 := by
  unfold stepW worseOf
  rw [List.getD_eq_getElem?_getD, List.append_assoc, List.getElem?_append_right (by rw [List.length_take]; omega), List.length_take]
  rw [show b - min b own.length = 0 by omega]
  rfl
theorem worse_len {own : Steps} {b : Nat} {x : Int × List Nat} (hb : b < own.length) : (worseOf own b x).length = own.length := by
  unfold worseOf
  rw [List.length_append, List.length_append, List.length_take, List.length_drop]
  simp
  omega
theorem worse_no {own : Steps} {b : Nat} {x : Int × List Nat} (R : RowOk bk own pp) (hb : b < own.length) (h : x.1 < stepW own b) : ¬ LetsOk bk (worseOf own b x) pp := fun L => by
  have h1 := (L.pa b (by rw [R.pl, ← R.sl]; exact hb)).c0
  rw [worse_at hb, R.c0 b hb] at h1
  omega
def gainsOf (st : Steps) : List Int := (List.range (st.length - 1)).map fun i => stepW st (i + 1) - stepW st i
theorem gains_down (R : RowOk bk st pp) : (gainsOf st).Pairwise (· ≥ ·) := by
  have step : ∀ d i, i + d < st.length - 1 → stepW st (i + d + 1) - stepW st (i + d) ≤ stepW st (i + 1) - stepW st i := by
    intro d
    induction d with
    | zero => intro i _; exact Int.le_refl _
    | succ d ih =>
      intro i h
      have a := ih i (by omega)
      have b : stepW st (i + d + 1 + 1) - stepW st (i + d + 1) ≤ stepW st (i + d + 1) - stepW st (i + d) := R.hollow (k := i + d) (by omega)
      rw [show i + (d + 1) = i + d + 1 from rfl]
      omega
  unfold gainsOf
  rw [List.pairwise_map]
  refine List.Pairwise.imp_of_mem ?_ List.pairwise_lt_range
  intro i j hi hj hij
  rw [List.mem_range] at hi hj
  have := step (j - i) i (by omega)
  rw [show i + (j - i) = j by omega] at this
  exact this
theorem gains_sorted (R : RowOk bk st pp) {ns : List Int} (h : ns.Perm (gainsOf st)) (o : OrdB true ns) : ns = gainsOf st :=
  List.Perm.eq_of_pairwise (le := (· ≥ ·)) (fun a b _ _ h1 h2 => Int.le_antisymm h2 h1) o (gains_down R) h
theorem row_len (B : BkOk bk) (R : RowOk bk st pp) : 0 < st.length ∧ st.length ≤ 9 := by
  have cr8 : crowd bk (List.range bk.length) ≤ 8 := crowd_le.mpr fun i _ => by
    unfold load
    have h1 := List.length_filter_le (fun i_1 => over (stt bk i_1) (stt bk i).1) (List.range bk.length)
    rw [List.length_range] at h1
    have := B.few
    omega
  have := R.sl
  omega
theorem row_few (B : BkOk bk) (R : RowOk bk st pp) : (∀ s ∈ st, s.2.length ≤ 24) ∧ ∀ p ∈ pp, p.length ≤ 1000 := by
  have few := B.few
  refine ⟨fun s hs => ?_, fun p hp => ?_⟩
  · obtain ⟨i, hi, rfl⟩ := List.mem_iff_getElem.mp hs
    have := (R.ch i hi).r
    rw [List.getD_eq_getElem?_getD, List.getElem?_eq_getElem hi] at this
    have := rising_len this
    dsimp only [Option.getD] at this
    omega
  · obtain ⟨i, hi, rfl⟩ := List.mem_iff_getElem.mp hp
    have := (R.pa i (by rw [R.sl, ← R.pl]; exact hi)).len
    rw [List.getD_eq_getElem?_getD, List.getElem?_eq_getElem hi] at this
    dsimp only [Option.getD] at this
    omega
end
/-! ### readings -/
section
variable {P : Program} {w : World} {K : Frg} {mg : Str → Option Value} {base : Heap}
def nil0 : Hp := fun _ => none
section
variable {α : Type} {S : Rep α} [Mono S] {σ : L2.St} {H : Hp} {ta tb te tl : TE} {D : Ends} {tz : TS}
theorem evb_catB {as bs : List α} (ha : EvB ta σ H nil0 (fun G v => rTL S G v as)) (hb : EvB tb σ H nil0 (fun G v => rTL S G v bs)) (hl : as.length + bs.length ≤ 100000) : EvB (tOp rCat ta tb) σ H nil0 (fun G v => rTL S G v (as ++ bs)) := fun H1 e Q q =>
  ha H1 e _ fun v H2 e2 ⟨p, xs, h0, hp, hA⟩ => hb H2 (e.trans e2) _ fun u H3 e3 ⟨r, ys, h1, hr, hB⟩ => by
    subst h0
    subst h1
    have hp' : H2 p = some (.lst xs) := hp
    have hr' : H3 r = some (.lst ys) := hr
    refine ⟨p, r, xs, ys, rfl, rfl, e3 _ _ hp', hr', sz_of ?_, fun d hd => q _ _ ((e2.trans e3).trans (Ex.new hd)) ⟨d, xs ++ ys, rfl, upd_same, ?_⟩⟩
    · have a := hA.1
      have b := hB.1
      omega
    · exact All2.app (hA.mono fun _ _ => Mono.mono (new_mono (e3.trans (Ex.new hd)))) (hB.mono fun _ _ => Mono.mono (new_mono (Ex.new hd)))
theorem evb_sl {tlo thi : TO} {x : V} {xs : List α} {lo hi : Option Int} {f : List V → List V} {ys : List α} (hx : rLst K S H x xs) (h : Ev te σ H x) (h1 : EvO tlo σ H lo) (h2 : EvO thi σ H hi) (hc : ∀ vs, cutV vs lo hi = f vs) (hA : ∀ (R : V → α → Prop) vs, All2 R vs xs → All2 R (f vs) ys) :
    EvB (tSl (rSlL K) te tlo thi) σ H nil0 (fun G v => rTL S G v ys) := by
  obtain ⟨a, vs, rfl, hl, hV⟩ := hx
  have key := el_sl (K := K) h h1 h2 hl
  rw [hc] at key
  exact fun H1 e Q q => key H1 e _ fun p H2 hp e2 h2 => q _ _ e2 ⟨p, _, rfl, h2, hA _ _ (hV.mono fun _ _ => Mono.mono (e.trans e2))⟩
/-- a list of one new thing -/
theorem evb_lst1 {x : α} (h : EvB te σ H nil0 (fun G v => S G v x)) : EvB (tLst (tCons te tNil)) σ H nil0 (fun G v => rTL S G v [x]) := fun H1 e Q q =>
  h H1 e _ fun v H2 e2 r => ⟨by show 1 ≤ sizeLine; decide, fun p hp => q _ _ (e2.trans (Ex.new hp)) ⟨p, [v], rfl, upd_same, All2.snoc All2.nil (Mono.mono (new_mono (Ex.new hp)) r)⟩⟩
end
theorem EvU.mono' {σ : L2.St} {H H' : Hp} {te : TE} {xs : List V} (e : Ex H H') (h : EvU te σ H xs) : EvU te σ H' xs := fun H1 a Q q => h H1 (e.trans a) Q q
theorem t_callU {σ : L2.St} {H : Hp} {te : TE} {tr : TA} {xs dvs : List V} {sp : Sp} {E : XK} {Q : VK} (h : EvU te σ H xs) (k : ∀ p H1, H p = none → Ex H H1 → H1 p = some (.tup xs) → tr σ H1 fun vs H2 => sp ((.ref p :: vs) ++ dvs) H2 Q E) : tCall sp dvs E (tCons te tr) σ H Q := h H (Ex.refl H) _ fun p H1 hp e h1 => k p H1 hp e h1
/-- the row, put together anew -/
theorem ev_lets {σ : L2.St} {H : Hp} {i3 i4 i5 i6 : Nat} {x y z : V} {bk : Bk} {st : Steps} {pp : List Paper} {b : Bool} (h3 : σ[i3]? = some (some x)) (h4 : σ[i4]? = some (some (.str "row"))) (h5 : σ[i5]? = some (some y)) (h6 : σ[i6]? = some (some z))
    (hx : rLst K (rStt K) H x bk) (hy : rLst K (rStep K) H y st) (hz : rLst K (rLst K (rII K)) H z pp) (few : bk.length ≤ 24) (fst : st.length ≤ 100) (fch : ∀ s ∈ st, s.2.length ≤ 24) (fpp : ∀ p ∈ pp, p.length ≤ 1000) (hb : b = true ↔ LetsOk bk st pp) :
    Ev (tCall (sp_lets_row K) [] E0 (tCons (tVar i3) (tCons (tTup (tCons (tVar i4) (tCons (tVar i5) (tCons (tVar i6) tNil)))) tNil))) σ H (.bl b) := fun H1 e Q q =>
  ⟨x, h3, (eu_tup (ea_cons (ev_var h4) (ea_cons (ev_var h5) (ea_cons (ev_var h6) ea_nil))) (by simp)) H1 (Ex.refl H1) _ fun t H2 ht e2 h2 =>
    spv_lets_row (H := H2) (Mono.mono (e.trans e2) hx) ⟨t, y, z, rfl, st_of h2, Mono.mono (e.trans e2) hy, Mono.mono (e.trans e2) hz⟩ few fst fch fpp hb H2 (Ex.refl H2) Q (fun H3 e3 => q H3 (e2.trans e3)) E0⟩
theorem ev_mostby {σ : L2.St} {H : Hp} {i4 i5 i6 i9 : Nat} {y z : V} {st : Steps} {pp : List Paper} {k : Nat} (h4 : σ[i4]? = some (some (.str "row"))) (h5 : σ[i5]? = some (some y)) (h6 : σ[i6]? = some (some z)) (h9 : σ[i9]? = some (some (.int (k : Int))))
    (hy : rLst K (rStep K) H y st) (hz : rLst K (rLst K (rII K)) H z pp) (h0 : 0 < st.length) :
    Ev (tCall (sp_most_by K) [] E0 (tCons (tTup (tCons (tVar i4) (tCons (tVar i5) (tCons (tVar i6) tNil)))) (tCons (tVar i9) tNil))) σ H (.int (stepW st (min k (st.length - 1)))) := fun H1 e Q q =>
  t_callU (EvU.mono' e (eu_tup (ea_cons (ev_var h4) (ea_cons (ev_var h5) (ea_cons (ev_var h6) ea_nil))) (by simp))) fun t H2 ht e2 h2 => ⟨_, h9,
    spv_most_by (H := H2) ⟨t, y, z, rfl, st_of h2, Mono.mono (e.trans e2) hy, Mono.mono (e.trans e2) hz⟩ h0 H2 (Ex.refl H2) Q (fun H3 e3 => q H3 (e2.trans e3)) E0⟩
/-- what is found, bench by bench -/
theorem c_found {σ : L2.St} {H1 : Hp} {a : Addr} {x : V} {bk : Bk} {ta : TA} {n : Nat} {D : Ends} {tz : TS} (h : EvA ta σ H1 [.int (n : Int)]) (hn : n ≤ 100) (h2 : ∀ i : Nat, ((wipe σ [9]).set 9 (some (.int (i : Int))))[2]? = some (some (.ref a))) (h3 : ∀ i : Nat, ((wipe σ [9]).set 9 (some (.int (i : Int))))[3]? = some (some x))
    (h9 : ∀ i : Nat, ((wipe σ [9]).set 9 (some (.int (i : Int))))[9]? = some (some (.int (i : Int)))) (hw : ∀ x, wipe ((wipe σ [9]).set 9 (some x)) [9] = wipe σ [9]) (hS : StAt a H1) (hx : rLst K (rStt K) (New (one a) H1) x bk) (few : bk.length ≤ 8)
    (k : ∀ p ws fs H2, H1 p = none → StAt a H2 → KeptS a H1 H2 → H2 p = some (.lst ws) → All2 (rFnd K H2) ws fs → fs.length = n → (∀ j, j < n → Told bk j (fs.getD j fnd0)) → tz D (σ.set 7 (some (.ref p))) H2) :
    tSeq (tAsg (tLc (iRng1 ta) (gName 9) tYes (tCall (sp_law_step K) [] E0 (tCons (tVar 2) (tCons (tVar 3) (tCons (tVar 9) tNil)))) [9]) (gName 7)) tz D σ H1 :=
  h H1 (Ex.refl H1) _ fun H0 e0 => ⟨(n : Int), rfl, by omega, by omega, fun Dl hD => by
    have hS0 := hS.mono e0
    obtain ⟨y1, y2, y3, hSa, _⟩ := id hS0
    have nD : Dl ≠ a := fun z => by rw [z, hSa] at hD; cases hD
    have bD : upd H0 Dl (.lst []) Dl = some (.lst []) := upd_same
    have ba : upd H0 Dl (.lst []) a = some (.lst [.int y1, .int y2, .int y3]) := by rw [upd_ne (Ne.symm nD)]; exact hSa
    have hx0 : rLst K (rStt K) (New (one a) H0) x bk := Mono.mono (new_mono e0) hx
    refine lc_range (lo := 0) (n := (n : Int).toNat) (fun i H' => StAt a H' ∧ KeptS a H0 H' ∧ ∃ acc fs, H' Dl = some (.lst acc) ∧ acc.length = i ∧ All2 (rFnd K (New (upd H0 Dl (.lst [])) H')) acc fs ∧ ∀ j, j < i → Told bk j (fs.getD j fnd0)) ?_ ?_ ?_
    · obtain ⟨y1, y2, y3, g1, g2⟩ := hS0
      exact ⟨⟨y1, y2, y3, by rw [upd_ne (Ne.symm nD)]; exact g1, g2⟩, KeptS.of (Ex.new hD), [], [], upd_same, rfl, All2.nil, fun j hj => by omega⟩
    · rintro i H' hi ⟨s', k', acc, fs, hacc, hal, hA, hT⟩
      rw [Int.toNat_natCast] at hi
      have e1 : (0 : Int) + (i : Int) = (i : Int) := Int.zero_add _
      rw [e1]
      refine ⟨hw _, et_yes H' (Ex.refl _) _ fun H3 e3 => ?_⟩
      rw [if_pos rfl]
      refine ⟨_, h2 i, _, h3 i, _, h9 i, a, x, bk, i, rfl, s'.mono e3, Mono.mono (Ex.trans k' (new_mono e3)) hx0, few, fun f v H4 tf s4 k4 r4 => ?_⟩
      have h4 : H4 Dl = some (.lst acc) := one_at k4 nD (e3 _ _ hacc)
      have sub : Sub (upd H0 Dl (.lst [])) H3 := fun b hb => by
        have nb : b ≠ Dl := fun z => by rw [z, e3 _ _ hacc] at hb; cases hb
        rw [upd_ne nb]
        obtain ⟨_, _, _, g, _⟩ := s'.mono e3
        exact one_back (k'.trans (KeptS.of e3)) (fun z => by rw [z, g] at hb; cases hb) hb
      refine ⟨acc, h4, sz_lt (by omega), ?_, ((k'.trans (KeptS.of e3)).trans k4).mut2 hD, acc ++ [v], fs ++ [f], upd_same, by rw [List.length_append]; simp; exact hal, ?_, fun j hj => ?_⟩
      · obtain ⟨z1, z2, z3, g1, g2⟩ := s4
        exact ⟨z1, z2, z3, by rw [upd_ne (Ne.symm nD)]; exact g1, g2⟩
      · rw [new_mut bD]
        exact (hA.mono fun _ _ => Mono.mono ((new_mono e3).trans (keptN ba k4))).snoc (Mono.mono (new_call sub) r4)
      · have hfl : fs.length = i := by rw [← hA.1]; exact hal
        by_cases ej : j = i
        · subst ej
          rw [← hfl, getD_app_eq, hfl]
          exact tf
        · rw [getD_app_lt (by omega)]
          exact hT j (by omega)
    · rintro H' ⟨s', k', acc, fs, hacc, hal, hA, hT⟩
      rw [Int.toNat_natCast] at hal hT
      exact k Dl acc fs H' (fresh_back e0 hD) s' ((KeptS.of e0).trans k') hacc (hA.mono fun _ _ => Mono.mono new_ex) (by rw [← hA.1]; exact hal) hT⟩
/-- over zip of a list and a new one, the items values that are known -/
theorem el_lcZN {σ : L2.St} {H : Hp} {ta tb te : TE} {a : Addr} {xs ys : List V} {i0 j0 : Nat} {vs : List Nat} (v : Nat → V) (ha : Ev ta σ H (.ref a)) (hx : SqL K H a xs) (hb : EvL tb σ H ys) (hl : ys.length ≤ xs.length) (hz : xs.length ≤ 40000)
    (hw : ∀ x y, wipe (((wipe σ vs).set i0 (some x)).set j0 (some y)) vs = wipe σ vs)
    (he : ∀ (i : Nat) (x y : V) H1, Ex H H1 → xs[i]? = some x → ys[i]? = some y → Ev te (((wipe σ vs).set i0 (some x)).set j0 (some y)) H1 (v i)) :
    EvL (tLc (iZip K (tCons ta (tCons tb tNil))) (gTup K 2 (gCons (gName i0) (gCons (gName j0) gNil))) tYes te vs) σ H ((List.range ys.length).map v) := fun H0 e Q q =>
  ha H0 e _ fun H1 e1 => hb H1 (e.trans e1) _ fun b H2 hb2 e2 h2 => ⟨a, b, xs, ys, rfl, ex_l ((e.trans e1).trans e2) hx, sq_of h2, fun Dl hD =>
  ⟨fun i m H' => (Ex H2 H' ∧ H' Dl = some (.lst ((List.range i).map v))) ∧ i + m = ys.length, ⟨ys.length, ⟨Ex.new hD, upd_same⟩, by omega⟩, fun i m H' p => by
    obtain ⟨⟨p1, p2⟩, hm⟩ := p
    have eH := ((e.trans e1).trans e2).trans p1
    have sx := ex_l eH hx
    have sy : SqL K H' b ys := sq_of (p1 _ _ h2)
    by_cases hi : i < ys.length
    · refine .inr ⟨⟨xs, ys, _, _, sx, sy, List.getElem?_eq_getElem (show i < xs.length by omega), List.getElem?_eq_getElem hi⟩, fun H3 => Ex H2 H3 ∧ H3 Dl = some (.lst ((List.range (i + 1)).map v)), fun H3 c => ⟨ys.length - (i + 1), by omega, c, by omega⟩, ?_⟩
      rintro u H3 ⟨T, x, y, rfl, hT, rfl, gx, gy⟩
      have kx := gx xs sx
      have ky := gy ys sy
      have eT : Ex H' (upd H' T (.tup [x, y])) := Ex.new hT
      refine tg_2 (st_of upd_same) _ (Ex.refl _) _ ⟨hw _ _, et_yes _ (Ex.refl _) _ fun H4 e4 => ?_⟩
      rw [if_pos rfl]
      refine he i x y H4 ((eH.trans eT).trans e4) kx ky H4 (Ex.refl _) _ fun H5 e5 => ⟨_, (eT.trans (e4.trans e5)) _ _ p2, sz_lt (by rw [List.length_map, List.length_range]; omega), Ex.mut (p1.trans (eT.trans (e4.trans e5))) hD, ?_⟩
      rw [List.range_succ, List.map_append]
      exact upd_same
    · have hi' : i = ys.length := by omega
      subst hi'
      exact .inl ⟨⟨xs, ys, sx, sy, .inr (Nat.le_refl _)⟩, q Dl H' (fresh_back (e1.trans e2) hD) ((e1.trans e2).trans p1) p2⟩⟩⟩
end
end BW
/-! The law. -/
namespace BW
open PySem L2 Evl
local macro_rules | `(tactic| walk_at "at") => `(tactic| first | rfl | assumption | exact atI_nat (by assumption))
local macro_rules | `(tactic| walk_at "rv") => `(tactic| first | exact rv_I0 | exact rv_eq rfl | exact rv_ne rfl | exact rv_isN | exact rv_notN | exact rv_notB | exact rv_ixL (by assumption) (by walk_at "at") | exact rv_ixT (by assumption) (by walk_at "at") | exact rv_I (by omega))
local macro_rules | `(tactic| walk_at "ev") => `(tactic| first | exact ev_c | exact ev_var rfl | assumption | (apply ev_chain; walk_at "ev"; walk_at "ev"; walk_at "rv"; walk_at "ev"; walk_at "rv") | (apply ev_op; walk_at "ev"; walk_at "ev"; walk_at "rv"))
/-- a step whose choice is known in the heap H0 -/
def rStepF (K : Frg) (H0 : Hp) : Rep (Int × List Nat) := fun G v s => ∃ t y, v = .ref t ∧ SqT K G t [.int s.1, y] ∧ rLst K rNat H0 y s.2
instance mStepF {K : Frg} {H0 : Hp} : Mono (rStepF K H0) := ⟨fun e ⟨t, y, h1, h2, h3⟩ => ⟨t, y, h1, ex_t e h2, h3⟩⟩
section
variable {P : Program} {w : World} {K : Frg} {mg : Str → Option Value} {base : Heap}
theorem cut1 {xs : List V} : cutV xs (some 1) none = xs.drop 1 := cut_from (k := 1)
theorem evb_imp {σ : L2.St} {H : Hp} {te : TE} {R R' : Hp → V → Prop} (h : EvB te σ H nil0 R) (k : ∀ v G, Ex H G → R G v → R' G v) : EvB te σ H nil0 R' := fun H1 e Q q => h H1 e Q fun v H2 e2 r => q v H2 e2 (k v H2 (e.trans e2) r)
def sp_law (K : Frg) : Sp := fun vs H Q _ => ∃ (x : V) (ns : List Int), vs = [x] ∧ rLst K rInt H x ns ∧ RetV (.bl true) H Q
theorem ok_law (T : Txt K mg) : FnOk P w K mg base CX0 8 T.d_law.f T.d_law.fd ["_law_script"] (sp_law K) := by
  refine T.d_law.F.ok sc_law (fun vs H Q E h => ?_) (fun cdv A outer s H vs Q E hr h => ?_)
  · obtain ⟨x, ns, rfl, _⟩ := h
    rfl
  · obtain ⟨x, ns, rfl, hx, q⟩ := h
    refine ⟨_, (pss_cons (ps_for PassesOwn.never rfl (pi_range1 rfl T.n_range (pa_cons (pe_callB (call_max2 rfl) rfl T.n_max (by decide +kernel) (pa_cons pe_int (pa_cons (pe_callB (call_min2 rfl) rfl T.n_min (by decide +kernel) (pa_cons (pe_callB (kLen K) rfl T.n_len (by decide +kernel) (pa_cons (pv 0) pa_nil)) (pa_cons pe_int pa_nil))) pa_nil))) pa_nil)) (pg_name (i := 1) sc_law.nd rfl (Or.inl rfl))
      (pss_cons (ps_set (i := 2) sc_law.nd rfl (Or.inr rfl) (pe_call (ok_law_begun T) (hr.mono (by decide)) rfl T.d_law_begun.m T.d_law_begun.F.kp T.d_law_begun.b .nil pass0 (pa_cons (pv 0) (pa_cons (pv 1) pa_nil))))
      (pss_cons (ps_set (i := 3) sc_law.nd rfl (Or.inr rfl) (pe_call (ok_law_book T) (hr.mono (by decide)) rfl T.d_law_book.m T.d_law_book.F.kp T.d_law_book.b .nil pass0 (pa_cons (pv 2) (pa_cons pe_int pa_nil))))
      (pss_cons (ps_asg (pe_call (ok_row_of T) (hr.mono (by decide)) rfl T.d_row_of.m T.d_row_of.F.kp T.d_row_of.b .nil pass0 (pa_cons (pv 3) pa_nil)) (kPgT (n := 3) K (pg_tup rfl (pgs_cons (pg_name (i := 4) sc_law.nd rfl (Or.inl rfl)) (pgs_cons (pg_name (i := 5) sc_law.nd rfl (Or.inl rfl)) (pgs_cons (pg_name (i := 6) sc_law.nd rfl (Or.inl rfl)) pgs_nil))))))
      (pss_cons (ps_setLc (i := 7) (own := [("_law_benches", 9)]) (g := gName 9) (tt := tYes) rfl sc_law.nd rfl rfl (sw_true rfl rfl rfl (by decide +kernel)) (pi_range1 rfl T.n_range (pa_cons (pe_callB (call_min2 rfl) rfl T.n_min (by decide +kernel) (pa_cons (pe_callB (kLen K) rfl T.n_len (by decide +kernel) (pa_cons (pv 5) pa_nil)) (pa_cons pe_int pa_nil))) pa_nil)) (blkOk_by (own := [("_law_benches", 9)]) (N := N_law) (sc := defScope S_law) (by decide +kernel)) (fun _ _ _ _ _ => (pg_name (i := 9) sc_law.nd rfl (Or.inl rfl))) (fun _ _ _ _ _ => pts_nil) (fun _ _ _ _ _ => (pe_call (ok_law_step T) (hr.mono (by decide)) rfl T.d_law_step.m T.d_law_step.F.kp T.d_law_step.b .nil pass0 (pa_cons (pv 2) (pa_cons (pv 3) (pa_cons (pv 9) pa_nil))))))
      (pss_cons (ps_set (i := 8) sc_law.nd rfl (Or.inl rfl) (pe_op op_cat (pe_lc (own := [("_law_one", 13)]) (g := gName 13) (tt := tYes) rfl sc_law.nd (kPiL K (pv 7)) (blkOk_by (own := [("_law_one", 13)]) (N := N_law) (sc := defScope S_law) (by decide +kernel)) (fun _ _ _ _ _ => (pg_name (i := 13) sc_law.nd rfl (Or.inl rfl))) (fun _ _ _ _ _ => pts_nil) (fun _ _ _ _ _ => (pe_tup (pa_cons (pe_ix (kIxL K) (pv 13) pe_int (fun _ _ => rfl)) (pa_cons (pe_ix (kIxL K) (pv 13) pe_int (fun _ _ => rfl)) pa_nil))))) (pe_slice (kSlL K) (pv 5) (po_some pe_int) po_none)))
      (pss_cons (ps_if (pt_cmpR (kNeD K hr.units) (pe_lc (own := [("_law_step_here", 14)]) (g := gName 14) (tt := tYes) rfl sc_law.nd (kPiL K (pv 8)) (blkOk_by (own := [("_law_step_here", 14)]) (N := N_law) (sc := defScope S_law) (by decide +kernel)) (fun _ _ _ _ _ => (pg_name (i := 14) sc_law.nd rfl (Or.inl rfl))) (fun _ _ _ _ _ => pts_nil) (fun _ _ _ _ _ => (pe_ix (kIxT K) (pv 14) pe_int (fun _ _ => rfl)))) (pe_lc (own := [("_law_step_here", 14)]) (g := gName 14) (tt := tYes) rfl sc_law.nd (kPiL K (pv 5)) (blkOk_by (own := [("_law_step_here", 14)]) (N := N_law) (sc := defScope S_law) (by decide +kernel)) (fun _ _ _ _ _ => (pg_name (i := 14) sc_law.nd rfl (Or.inl rfl))) (fun _ _ _ _ _ => pts_nil) (fun _ _ _ _ _ => (pe_ix (kIxT K) (pv 14) pe_int (fun _ _ => rfl)))) (nomark _)) (pss_one (ps_ret pe_bl)) pss_nil)
      (pss_cons (ps_if (PW.pt (pw_or (pt_cmpR op_notBl (pe_call (ok_lets_row T) (hr.mono (by decide)) rfl T.d_lets_row.m T.d_lets_row.F.kp T.d_lets_row.b .nil pass0 (pa_cons (pv 3) (pa_cons (pe_tup (pa_cons (pv 4) (pa_cons (pv 8) (pa_cons (pv 6) pa_nil)))) pa_nil))) pe_bl (nomark _)) (pw_or1 (pt_cmpR op_notBl (pe_call (ok_lets_row T) (hr.mono (by decide)) rfl T.d_lets_row.m T.d_lets_row.F.kp T.d_lets_row.b .nil pass0 (pa_cons (pv 3) (pa_cons (pe_tup (pa_cons (pv 4) (pa_cons (pv 5) (pa_cons (pv 6) pa_nil)))) pa_nil))) pe_bl (nomark _))))) (pss_one (ps_ret pe_bl)) pss_nil)
      (pss_cons (ps_for PassesOwn.never rfl (pi_range1 rfl T.n_range (pa_cons (pe_callB (kLen K) rfl T.n_len (by decide +kernel) (pa_cons (pv 7) pa_nil)) pa_nil)) (pg_name (i := 9) sc_law.nd rfl (Or.inl rfl))
      (pss_cons (ps_set (i := 10) sc_law.nd rfl (Or.inl rfl) (pe_ix (kIxL K) (pe_ix (kIxL K) (pv 7) (pv 9) (fun _ _ => rfl)) pe_int (fun _ _ => rfl)))
      (pss_one (ps_if (pt_cmpR op_notN (pv 10) pe_non (nomark _)) (pss_cons (ps_set (i := 11) sc_law.nd rfl (Or.inl rfl) (pe_op op_cat (pe_op op_cat (pe_slice (kSlL K) (pv 8) po_none (po_some (pv 9))) (pe_lst (pa_cons (pe_tup (pa_cons (pe_call (ok_law_worth T) (hr.mono (by decide)) rfl T.d_law_worth.m T.d_law_worth.F.kp T.d_law_worth.b .nil pass0 (pa_cons (pv 3) (pa_cons (pv 10) pa_nil))) (pa_cons (pv 10) pa_nil))) pa_nil))) (pe_slice (kSlL K) (pv 8) (po_some (pe_op op_add (pv 9) pe_int)) po_none)))
      (pss_one (ps_if (pt_cmpR op_notBl (pe_call (ok_lets_row T) (hr.mono (by decide)) rfl T.d_lets_row.m T.d_lets_row.F.kp T.d_lets_row.b .nil pass0 (pa_cons (pv 3) (pa_cons (pe_tup (pa_cons (pv 4) (pa_cons (pv 11) (pa_cons (pv 6) pa_nil)))) pa_nil))) pe_bl (nomark _)) (pss_one (ps_ret pe_bl)) pss_nil))) pss_nil))))
      (pss_cons (ps_for PassesOwn.never rfl (kPiL K (pe_lst (pa_cons pe_int (pa_cons pe_int (pa_cons (pe_callB (kLen K) rfl T.n_len (by decide +kernel) (pa_cons (pv 5) pa_nil)) (pa_cons pe_int pa_nil)))))) (pg_name (i := 9) sc_law.nd rfl (Or.inl rfl))
      (pss_one (ps_if (pt_cmpR op_ne (pe_call (ok_most_by T) (hr.mono (by decide)) rfl T.d_most_by.m T.d_most_by.F.kp T.d_most_by.b .nil pass0 (pa_cons (pe_tup (pa_cons (pv 4) (pa_cons (pv 8) (pa_cons (pv 6) pa_nil)))) (pa_cons (pv 9) pa_nil))) (pe_ix (kIxT K) (pe_ix (kIxL K) (pv 5) (pe_callB (call_min2 rfl) rfl T.n_min (by decide +kernel) (pa_cons (pv 9) (pa_cons (pe_op op_sub (pe_callB (kLen K) rfl T.n_len (by decide +kernel) (pa_cons (pv 5) pa_nil)) pe_int) pa_nil))) (fun _ _ => rfl)) pe_int (fun _ _ => rfl)) (nomark _)) (pss_one (ps_ret pe_bl)) pss_nil)))
      (pss_cons (ps_setLc (i := 12) (own := [("_law_one", 13), ("_law_other", 15)]) (g := gTup K 2 (gCons (gName 13) (gCons (gName 15) gNil))) (tt := tYes) rfl sc_law.nd rfl rfl (sw_true rfl rfl rfl (by decide +kernel)) (kPiZ K (pi_zip rfl T.n_zip (pa_cons (pv 5) (pa_cons (pe_slice (kSlL K) (pv 5) (po_some pe_int) po_none) pa_nil)))) (blkOk_by (own := [("_law_one", 13), ("_law_other", 15)]) (N := N_law) (sc := defScope S_law) (by decide +kernel)) (fun _ _ _ _ _ => (kPgT (n := 2) K (pg_tup rfl (pgs_cons (pg_name (i := 13) sc_law.nd rfl (Or.inl rfl)) (pgs_cons (pg_name (i := 15) sc_law.nd rfl (Or.inl rfl)) pgs_nil))))) (fun _ _ _ _ _ => pts_nil) (fun _ _ _ _ _ => (pe_op op_sub (pe_ix (kIxT K) (pv 15) pe_int (fun _ _ => rfl)) (pe_ix (kIxT K) (pv 13) pe_int (fun _ _ => rfl)))))
      (pss_one (ps_if (pt_cmpR (kNeD K hr.units) (pv 12) (pe_callBK (kSortedRev K true) rfl T.n_sorted (by decide +kernel) (pa_cons (pv 12) pa_nil) (pk_cons pe_bl pk_nil)) (nomark _)) (pss_one (ps_ret pe_bl)) pss_nil)))))))))))))
      (pss_one (ps_ret pe_bl))), ?_⟩
    have en : Ev (tCB (fun xs H Q => ∃ i j, xs = [.int i, .int j] ∧ Q (.int (if j > i then j else i)) H) (tCons (tC (.int 1)) (tCons (tCB (fun xs H Q => ∃ i j, xs = [.int i, .int j] ∧ Q (.int (if j < i then j else i)) H) (tCons (tCB (rLenS K) (tCons (tVar 0) tNil)) (tCons (tC (.int 4)) tNil))) tNil))) (start N_law [x]) H (.int (max 1 (min ns.length 4) : Nat)) :=
      ev_is (ev_cb (ea_cons ev_c (ea_cons (ev_cb (ea_cons (lst_len (R := rInt) hx (ev_var rfl)) (ea_cons ev_c ea_nil)) rc_min2) ea_nil)) rc_max2) (by
        congr 1
        split <;> split <;> omega)
    generalize hn4 : max 1 (min ns.length 4) = n4 at en
    have hn4' : n4 ≤ 4 := by omega
    refine q_forR1 (n := (n4 : Int)) (ea_cons en ea_nil) (by omega) (fun _ σ' H' => ∃ (v1 v2 v3 v4 v5 v6 v7 v8 v9 v10 v11 v12 : Option V), σ' = [some x, v1, v2, v3, v4, v5, v6, v7, v8, v9, v10, v11, v12, none, none, none] ∧ Ex H H')
      (fun H1 e1 => ⟨none, none, none, none, none, none, none, none, none, none, none, none, rfl, e1⟩) ?_ ?_
    · rintro i σ' H0 hi ⟨v1, v2, v3, v4, v5, v6, v7, v8, v9, v10, v11, v12, rfl, eH⟩
      -- the state
      refine ⟨_, rfl, _, rfl, x, ns, i, rfl, Mono.mono eH hx, by omega, fun a H1 ha e1 hS => ?_⟩
      have h0 : H a = none := fresh_back eH ha
      have eH1 := eH.trans e1
      -- the book
      refine ⟨_, rfl, a, rfl, hS, fun bk b3 H2 BO s2 k2 r3 => ?_⟩
      have eH2 : Ex H H2 := kept_base h0 eH1 k2
      have inA : ∀ {G G' : Hp}, StAt a G → Ex (New G G') (New (one a) G') := fun {G G'} s => new_base fun b hb => one_ne fun z => by
        obtain ⟨_, _, _, g, _⟩ := s
        rw [z, g] at hb
        cases hb
      have bkA : rLst K (rStt K) (New (one a) H2) b3 bk := (Mono.mono (R := rTL (rStt K)) (inA hS) r3 : rTL (rStt K) (New (one a) H2) b3 bk).lst
      have few := BO.few
      -- the row
      refine ⟨_, rfl, b3, bk, rfl, Mono.mono new_ex bkA, BO, fun st pp R vr H3 e3 ⟨t, y, z, e0, ht, hy, hz⟩ => ?_⟩
      subst e0
      refine tg_3 (ex_t new_ex ht) _ (Ex.refl _) _ ?_
      dsimp only
      have s3 := s2.mono e3
      have eH3 := eH2.trans e3
      have bk3 : rLst K (rStt K) (New (one a) H3) b3 bk := Mono.mono (new_mono e3) bkA
      have hy3 : rLst K (rStep K) (New (one a) H3) y st := Mono.mono (inA s2) hy
      have hz3 : rLst K (rLst K (rII K)) (New (one a) H3) z pp := Mono.mono (inA s2) hz
      have rl := row_len BO R
      have rf := row_few BO R
      -- what is found
      refine c_found (n := min st.length 5) (ea_cons (ev_is (ev_cb (ea_cons (lst_len (R := rStep K) (Mono.mono new_ex hy3) (ev_var rfl)) (ea_cons ev_c ea_nil)) rc_min2) (by congr 1; split <;> omega)) ea_nil) (by omega) (fun _ => rfl) (fun _ => rfl) (fun _ => rfl) (fun _ => rfl) s3 bk3 few fun p7 ws fs H4 hp7 s4 k4 g7 hA7 hfl hT => ?_
      have eH4 : Ex H H4 := kept_base h0 eH3 k4
      have bk4 : rLst K (rStt K) H4 b3 bk := Mono.mono (Ex.trans k4 new_ex) bk3
      have hy4 : rLst K (rStep K) H4 y st := Mono.mono (Ex.trans k4 new_ex) hy3
      have hz4 : rLst K (rLst K (rII K)) H4 z pp := Mono.mono (Ex.trans k4 new_ex) hz3
      clear hy3 hz3 bk3 bkA hy hz ht r3 inA s3 s4 k4 k2 s2 hS
      rw [← hfl] at hT
      have RO := own_row R hfl hT
      have ol := own_len (st := st) hfl
      have rlo := row_len BO RO
      have rfo := row_few BO RO
      have f7 : rLst K (rFnd K) H4 (.ref p7) fs := ⟨p7, ws, rfl, sq_of g7, hA7⟩
      have hown : ownOf fs st = (fs.map fun f => (f.1, f.2.1)) ++ st.drop 5 := rfl
      -- own
      have first := evb_lcU (K := K) (R := rFnd K) (S := rStepF K H4) (H := H4) (B := nil0) (σ := [some x, some (.int (i : Int)), some (.ref a), some b3, some (.str "row"), some y, some z, some (.ref p7), v8, v9, v10, v11, v12, none, none, none]) (vs := [13]) (tl := tVar 7) (t := tYes) (te := tTup (tCons (tOp (rIxL K) (tVar 13) (tC (.int 0))) (tCons (tOp (rIxL K) (tVar 13) (tC (.int 1))) tNil))) (g := gName 13)
        (fun f : Fnd => some (f.1, f.2.1)) Sub.nil (ev_var rfl) f7 (by omega) (fun v f hf ⟨t, y2, z2, e0, ht, hc, ho⟩ => by
          subst e0
          refine ⟨_, tg_name, rfl, fun H5 _ => et_yes, fun H5 B1 b e sB hb => ?_⟩
          cases hb
          exact evb_tup (ea_cons (ev_op (ev_var rfl) ev_c (rv_ixL (ex_l e ht) rfl)) (ea_cons (ev_op (ev_var rfl) ev_c (rv_ixL (ex_l e ht) rfl)) ea_nil)) (by simp) sB fun G p hp _ => ⟨p, y2, rfl, st_of hp, hc⟩)
      rw [filterMap_some] at first
      have first' : EvB _ _ H4 nil0 (fun G v => rTL (rStep K) G v (fs.map fun f => (f.1, f.2.1))) := evb_imp first fun v G eG ⟨p, us, h1, h2, h3⟩ => ⟨p, us, h1, h2, h3.mono fun u s ⟨t, y2, q1, q2, q3⟩ => ⟨t, y2, q1, q2, Mono.mono (R := rLst K rNat) eG q3⟩⟩
      have rest5 := evb_sl (K := K) (S := rStep K) (σ := [some x, some (.int (i : Int)), some (.ref a), some b3, some (.str "row"), some y, some z, some (.ref p7), v8, v9, v10, v11, v12, none, none, none]) (H := H4) (te := tVar 5) (tlo := tPart (tC (.int 5))) (thi := tNoPart) (lo := some 5) (hi := none) (f := fun vs => vs.drop 5) (ys := st.drop 5) hy4 (ev_var rfl) (eo_some ev_c) eo_none (fun vs => cut_from (k := 5)) fun R vs h => h.drop 5
      refine c_asg (evb_catB first' rest5 (by rw [List.length_map, List.length_drop]; omega)) fun vo H5 e5 ro => ?_
      have ro' : rLst K (rStep K) H5 vo (ownOf fs st) := rTL.lst (R := rStep K) ro
      clear ro first first' rest5
      have eH5 := eH4.trans e5
      have bk5 : rLst K (rStt K) H5 b3 bk := Mono.mono e5 bk4
      have hy5 : rLst K (rStep K) H5 y st := Mono.mono e5 hy4
      have hz5 : rLst K (rLst K (rII K)) H5 z pp := Mono.mono e5 hz4
      have f75 : rLst K (rFnd K) H5 (.ref p7) fs := Mono.mono e5 f7
      -- the worths are the same
      have wo := el_lcU (K := K) (R := rStep K) (H := H5) (σ := [some x, some (.int (i : Int)), some (.ref a), some b3, some (.str "row"), some y, some z, some (.ref p7), some vo, v9, v10, v11, v12, none, none, none]) (vs := [14]) (tl := tVar 8) (t := tYes) (te := tOp (rIxT K) (tVar 14) (tC (.int 0))) (g := gName 14) (fun _ : Int × List Nat => true) (fun s => .int s.1) (ev_var rfl) ro' (by omega) (fun v s hs ⟨t, y2, e0, ht, _⟩ => by
          subst e0
          exact ⟨_, tg_name, rfl, fun H6 _ => et_yes, fun H6 e _ => ev_op (ev_var rfl) ev_c (rv_ixT (ex_t e ht) rfl)⟩)
      have wy := el_lcU (K := K) (R := rStep K) (H := H5) (σ := [some x, some (.int (i : Int)), some (.ref a), some b3, some (.str "row"), some y, some z, some (.ref p7), some vo, v9, v10, v11, v12, none, none, none]) (vs := [14]) (tl := tVar 5) (t := tYes) (te := tOp (rIxT K) (tVar 14) (tC (.int 0))) (g := gName 14) (fun _ : Int × List Nat => true) (fun s => .int s.1) (ev_var rfl) hy5 (by omega) (fun v s hs ⟨t, y2, e0, ht, _⟩ => by
          subst e0
          exact ⟨_, tg_name, rfl, fun H6 _ => et_yes, fun H6 e _ => ev_op (ev_var rfl) ev_c (rv_ixT (ex_t e ht) rfl)⟩)
      rw [filter_true] at wo wy
      have m1 : ∀ l : Steps, (l.map fun s => V.int s.1) = (l.map (·.1)).map V.int := fun l => by rw [List.map_map]; rfl
      rw [m1] at wo wy
      rw [own_map R hfl hT] at wo
      refine q_when (b := false) (et_test (ev_is (ev_opLL wo wy fun p r H6 h1 h2 _ => rv_neD (d := dInts (st.map (·.1))) (e := dInts (st.map (·.1))) (fun H7 e7 => dp_ints (sq_of (e7 _ _ h1))) (fun H7 e7 => dp_ints (sq_of (e7 _ _ h2))) (shaped_ints _) (shaped_ints _)) (by rw [eqv_ints, decide_eq_true rfl]; rfl))) (fun hb => nomatch hb) fun _ H6 e6 => ?_
      -- both rows are let
      refine q_when (b := false) (et_is (et_or (a := false) (b := false) (et_test (ev_is (ev_op (ev_lets (b := true) (i3 := 3) (i4 := 4) (i5 := 8) (i6 := 6) rfl rfl rfl rfl (Mono.mono e6 bk5) (Mono.mono e6 ro') (Mono.mono e6 hz5) (by omega) (by omega) rfo.1 rfo.2 ⟨fun _ => RO.lets, fun _ => rfl⟩) ev_c rv_notB) rfl)) fun _ =>
        et_test (ev_is (ev_op (ev_lets (b := true) (i3 := 3) (i4 := 4) (i5 := 5) (i6 := 6) rfl rfl rfl rfl (Mono.mono e6 bk5) (Mono.mono e6 hy5) (Mono.mono e6 hz5) (by omega) (by omega) rf.1 rf.2 ⟨fun _ => R.lets, fun _ => rfl⟩) ev_c rv_notB) rfl)) rfl) (fun hb => nomatch hb) fun _ H7 e7 => ?_
      have e57 := e6.trans e7
      -- no worse row is let
      refine q_forR1 (n := (fs.length : Int)) (ea_cons (lst_len (R := rFnd K) (Mono.mono e57 f75) (ev_var rfl)) ea_nil) (by omega) (fun _ σ' H' => ∃ (v9 v10 v11 : Option V), σ' = [some x, some (.int (i : Int)), some (.ref a), some b3, some (.str "row"), some y, some z, some (.ref p7), some vo, v9, v10, v11, v12, none, none, none] ∧ Ex H5 H')
        (fun H8 e8 => ⟨v9, v10, v11, rfl, e57.trans e8⟩) ?_ ?_
      · rintro j σ' H8 hj ⟨v9, v10, v11, rfl, e8⟩
        have hj' : j < fs.length := by omega
        obtain ⟨u, ⟨tu, y2, z2, e0, htu, hc, ho⟩, hu⟩ := lst_ix (R := rFnd K) (σ := [some x, some (.int (i : Int)), some (.ref a), some b3, some (.str "row"), some y, some z, some (.ref p7), some vo, some (.int (j : Int)), v10, v11, v12, none, none, none]) (ta := tVar 7) (tb := tVar 9) (Mono.mono e8 f75) (ev_var rfl) (ev_var rfl) (List.getElem?_eq_getElem hj')
        subst e0
        refine q_asg (ev_op hu ev_c (rv_ixL htu rfl)) fun H9 e9 => ?_
        have tj := hT j hj'
        rw [List.getD_eq_getElem?_getD, List.getElem?_eq_getElem hj'] at tj
        have tj' : Told bk j fs[j] := tj
        have ho' : rOC K H9 z2 fs[j].2.2 := Mono.mono e9 ho
        cases hlo : fs[j].2.2 with
        | none =>
          rw [hlo] at ho'
          have hz2 : z2 = .non := ho'
          subst hz2
          refine s_when (b := false) (et_test (ev_is (ev_op (ev_var rfl) ev_c rv_notN) rfl)) (fun hb => nomatch hb) fun _ H10 e10 => ⟨_, _, _, rfl, (e8.trans e9).trans e10⟩
        | some d =>
          rw [hlo] at ho'
          have hd : rLst K rNat H9 z2 d := ho'
          obtain ⟨dr, dc, dw⟩ := tj'.less d hlo
          have dl := rising_len dr
          obtain ⟨ld, wd, e0, _⟩ := id hd
          subst e0
          refine s_when (b := true) (et_test (ev_is (ev_op (ev_var rfl) ev_c rv_notN) rfl)) (fun _ H10 e10 => ?_) fun hb => nomatch hb
          have e510 := (e8.trans e9).trans e10
          have ro10 : rLst K (rStep K) H10 vo (ownOf fs st) := Mono.mono e510 ro'
          have hd10 : rLst K rNat H10 (.ref ld) d := Mono.mono e10 hd
          have bk10 : rLst K (rStt K) H10 b3 bk := Mono.mono e510 bk5
          have jo : j < (ownOf fs st).length := by rw [ol]; omega
          have left := evb_sl (K := K) (S := rStep K) (σ := [some x, some (.int (i : Int)), some (.ref a), some b3, some (.str "row"), some y, some z, some (.ref p7), some vo, some (.int (j : Int)), some (.ref ld), v11, v12, none, none, none]) (H := H10) (te := tVar 8) (tlo := tNoPart) (thi := tPart (tVar 9)) (lo := none) (hi := some (j : Int)) (f := fun vs => vs.take j) (ys := (ownOf fs st).take j) ro10 (ev_var rfl) eo_none (eo_some (ev_var rfl)) (fun vs => cut_to) fun R vs h => h.take j
          have right := evb_sl (K := K) (S := rStep K) (σ := [some x, some (.int (i : Int)), some (.ref a), some b3, some (.str "row"), some y, some z, some (.ref p7), some vo, some (.int (j : Int)), some (.ref ld), v11, v12, none, none, none]) (H := H10) (te := tVar 8) (tlo := tPart (tOp (rI0 fun i j => .int (i + j)) (tVar 9) (tC (.int 1)))) (thi := tNoPart) (lo := some ((j + 1 : Nat) : Int)) (hi := none) (f := fun vs => vs.drop (j + 1)) (ys := (ownOf fs st).drop (j + 1)) ro10 (ev_var rfl) (eo_some (ev_is (ev_op (ev_var rfl) ev_c rv_I0) rfl)) eo_none (fun vs => cut_from) fun R vs h => h.drop (j + 1)
          have mid : EvB (tLst (tCons (tTup (tCons (tCall (sp_law_worth K) [] E0 (tCons (tVar 3) (tCons (tVar 10) tNil))) (tCons (tVar 10) tNil))) tNil)) [some x, some (.int (i : Int)), some (.ref a), some b3, some (.str "row"), some y, some z, some (.ref p7), some vo, some (.int (j : Int)), some (.ref ld), v11, v12, none, none, none] H10 nil0 (fun G v => rTL (rStep K) G v [(worth bk d, d)]) :=
            evb_lst1 (S := rStep K) (evb_tup (ea_cons (ev_call (ea_cons (ev_var rfl) (ea_cons (ev_var rfl) ea_nil)) (spv_law_worth bk10 hd10 dr.2 (by omega))) (ea_cons (ev_var rfl) ea_nil)) (by simp) Sub.nil fun G p hp eG => ⟨p, .ref ld, rfl, st_of hp, Mono.mono (R := rLst K rNat) eG hd10⟩)
          have wlen := worse_len (x := (worth bk d, d)) jo
          refine c_asg (evb_catB (evb_catB left mid (by rw [List.length_take]; simp; omega)) right (by rw [List.length_append, List.length_take, List.length_drop]; simp; omega)) fun vw H11 e11 rw11 => ?_
          have rw' : rLst K (rStep K) H11 vw (worseOf (ownOf fs st) j (worth bk d, d)) := rTL.lst (R := rStep K) rw11
          have fw : ∀ s ∈ worseOf (ownOf fs st) j (worth bk d, d), s.2.length ≤ 24 := fun s hs => by
            unfold worseOf at hs
            rcases List.mem_append.mp hs with hs | hs
            · rcases List.mem_append.mp hs with hs | hs
              · exact rfo.1 s (List.mem_of_mem_take hs)
              · rw [List.mem_singleton.mp hs]
                show d.length ≤ 24
                omega
            · exact rfo.1 s (List.mem_of_mem_drop hs)
          have no := worse_no (x := (worth bk d, d)) RO jo (by
            rw [(own_ok R hfl hT (by omega)).1, ← told_w R (by omega) tj']
            exact dw)
          have e511 := e510.trans e11
          refine s_when (b := false) (et_test (ev_is (ev_op (ev_lets (b := false) (i3 := 3) (i4 := 4) (i5 := 11) (i6 := 6) rfl rfl rfl rfl (Mono.mono e511 bk5) rw' (Mono.mono e511 hz5) (by omega) (by omega) fw rfo.2 ⟨fun hb => (nomatch hb), fun hL => absurd hL no⟩) ev_c rv_notB) rfl)) (fun hb => nomatch hb) fun _ H12 e12 => ⟨_, _, _, rfl, e511.trans e12⟩
      · rintro σ' H8 ⟨v9, v10, v11, rfl, e8⟩
        have hy8 : rLst K (rStep K) H8 y st := Mono.mono e8 hy5
        -- the most by benches
        refine q_forNLn (xs := ([0, 1, st.length, 24] : List Nat).map fun n : Nat => V.int (n : Int)) (el_lst (ea_cons ev_c (ea_cons ev_c (ea_cons (lst_len (R := rStep K) hy8 (ev_var rfl)) (ea_cons ev_c ea_nil)))) (by simp)) (fun p _ σ' H' => ∃ (v9 : Option V), σ' = [some x, some (.int (i : Int)), some (.ref a), some b3, some (.str "row"), some y, some z, some (.ref p7), some vo, v9, v10, v11, v12, none, none, none] ∧ Ex H5 H' ∧ H' p = some (.lst (([0, 1, st.length, 24] : List Nat).map fun n : Nat => V.int (n : Int))))
          (fun p H9 hp e9 h9 => ⟨v9, rfl, e8.trans e9, h9⟩) (fun p j σ' H' _ ⟨_, _, _, h⟩ => sq_of h) ?_ ?_
        · rintro p j v σ' H9 hj ⟨v9, rfl, e9, h9⟩
          rw [List.getElem?_map] at hj
          obtain ⟨kk, hkk, rfl⟩ := Option.map_eq_some_iff.mp hj
          have hy9 : rLst K (rStep K) H9 y st := Mono.mono e9 hy5
          refine s_when (b := false) (et_test (ev_is (ev_op (ev_mostby (i4 := 4) (i5 := 8) (i6 := 6) (i9 := 9) (k := kk) rfl rfl rfl rfl (Mono.mono e9 ro') (Mono.mono e9 hz5) rlo.1) (ev_step0 hy9 (ev_var rfl) (ev_minLast (k := kk) hy9 rl.1 (ev_var rfl) (ev_var rfl)) (by omega)) (rv_ne rfl)) (by
            rw [ol, (own_ok R hfl hT (k := min kk (st.length - 1)) (by omega)).1, decide_eq_true rfl]
            rfl))) (fun hb => nomatch hb) fun _ H10 e10 => ⟨_, rfl, e9.trans e10, e10 _ _ h9⟩
        · rintro p σ' H9 ⟨v9, rfl, e9, h9⟩
          have hy9 : rLst K (rStep K) H9 y st := Mono.mono e9 hy5
          obtain ⟨ly, sy, rfl, hsy, hAy⟩ := id hy9
          -- the gains
          have gl := el_lcZN (K := K) (σ := [some x, some (.int (i : Int)), some (.ref a), some b3, some (.str "row"), some (.ref ly), some z, some (.ref p7), some vo, v9, v10, v11, v12, none, none, none]) (H := H9) (ta := tVar 5) (tb := tSl (rSlL K) (tVar 5) (tPart (tC (.int 1))) tNoPart) (te := tOp (rI0 fun i j => .int (i - j)) (tOp (rIxT K) (tVar 15) (tC (.int 0))) (tOp (rIxT K) (tVar 13) (tC (.int 0)))) (i0 := 13) (j0 := 15) (vs := [13, 15]) (xs := sy) (ys := cutV sy (some 1) none)
            (fun i => .int (stepW st (i + 1) - stepW st i)) (ev_var rfl) hsy (el_sl (ev_var rfl) (eo_some ev_c) eo_none hsy) (by rw [cut1, List.length_drop]; omega) (by rw [hAy.1]; omega) (fun _ _ => rfl) (fun i v u H10 e10 hv hu => by
              rw [cut1, List.getElem?_drop] at hu
              obtain ⟨s1, hs1, t1, y1, q1, q2, _⟩ := hAy.of_v hv
              obtain ⟨s2, hs2, t2, y2, q3, q4, _⟩ := hAy.of_v hu
              subst q1
              subst q3
              have w1 : stepW st i = s1.1 := by unfold stepW; rw [List.getD_eq_getElem?_getD, hs1]; rfl
              have w2 : stepW st (i + 1) = s2.1 := by unfold stepW; rw [List.getD_eq_getElem?_getD, show i + 1 = 1 + i by omega, hs2]; rfl
              rw [w1, w2]
              exact ev_op (ev_op (ev_var rfl) ev_c (rv_ixT (ex_t e10 q4) rfl)) (ev_op (ev_var rfl) ev_c (rv_ixT (ex_t e10 q2) rfl)) rv_I0)
          have gg : ((List.range (cutV sy (some 1) none).length).map fun i => V.int (stepW st (i + 1) - stepW st i)) = (gainsOf st).map V.int := by
            rw [cut1, List.length_drop, hAy.1]
            unfold gainsOf
            rw [List.map_map]
            rfl
          rw [gg] at gl
          refine q_asgL gl fun p12 H10 hp12 e10 h10 => ?_
          have srt : EvL (tCKw (rSortedKw K true [.bl true]) (tCons (tVar 12) tNil) (tCons (tC (.bl true)) tNil)) [some x, some (.int (i : Int)), some (.ref a), some b3, some (.str "row"), some (.ref ly), some z, some (.ref p7), some vo, v9, v10, v11, some (.ref p12), none, none, none] H10 ((gainsOf st).map V.int) := fun H11 e11 Q' q' =>
            ⟨_, rfl, p12, gainsOf st, rfl, rfl, sq_of (e11 _ _ h10), fun ns' p2 hperm hord hp2 => by
              rw [gains_sorted R hperm hord]
              exact q' p2 _ hp2 (Ex.new hp2) upd_same⟩
          refine s_when (b := false) (et_test (ev_is (ev_opL (ev_var rfl) srt fun p2 H11 h11 e11 => rv_neD (d := dInts (gainsOf st)) (e := dInts (gainsOf st)) (fun H12 e12 => dp_ints (sq_of (e12 _ _ (e11 _ _ h10)))) (fun H12 e12 => dp_ints (sq_of (e12 _ _ h11))) (shaped_ints _) (shaped_ints _)) (by rw [eqv_ints, decide_eq_true rfl]; rfl))) (fun hb => nomatch hb) fun _ H11 e11 => ?_
          exact ⟨_, _, _, _, _, _, _, _, _, _, _, _, rfl, eH5.trans ((e9.trans e10).trans e11)⟩
    · rintro σ' H' ⟨v1, v2, v3, v4, v5, v6, v7, v8, v9, v10, v11, v12, rfl, eH⟩
      refine s_ret (v := .bl true) ev_c fun H2 e2 => q H2 (eH.trans e2)
end
end BW
/-! What the top has left, put together; the law's end. -/
namespace BW
open PySem PySem.Spec L2 Evl PyProof.Rows
def Bi (x qual : Str) (st : Stmt) (ps : List Str) : Prop := ∀ (kv dc pm : Value) (an : Option Addr) (cd ct : Value) (us : List Value), us.length = ps.length → bindArgs (PySem.W.fnOf x qual (defArgs st) (defBody st) (defScope st) .none kv dc pm an cd ct) ⟨us, []⟩ = pure (ps.zip us)
theorem bi_is_whole : Bi "is_whole" "is_whole" S_is_whole ["thing"] := fun _ _ _ _ _ _ us hl => match us, hl with | [_], _ => rfl
theorem bi_is_over : Bi "is_over" "is_over" S_is_over ["stretch", "moment"] := fun _ _ _ _ _ _ us hl => match us, hl with | [_, _], _ => rfl
theorem bi_moments_of : Bi "moments_of" "moments_of" S_moments_of ["book"] := fun _ _ _ _ _ _ us hl => match us, hl with | [_], _ => rfl
theorem bi_load_at : Bi "load_at" "load_at" S_load_at ["book", "some", "moment"] := fun _ _ _ _ _ _ us hl => match us, hl with | [_, _, _], _ => rfl
theorem bi_loads_of : Bi "loads_of" "loads_of" S_loads_of ["book", "some"] := fun _ _ _ _ _ _ us hl => match us, hl with | [_, _], _ => rfl
theorem bi_crowd_of : Bi "crowd_of" "crowd_of" S_crowd_of ["book", "some"] := fun _ _ _ _ _ _ us hl => match us, hl with | [_, _], _ => rfl
theorem bi_is_some : Bi "is_some" "is_some" S_is_some ["many", "thing"] := fun _ _ _ _ _ _ us hl => match us, hl with | [_, _], _ => rfl
theorem bi_is_choice : Bi "is_choice" "is_choice" S_is_choice ["book", "benches", "thing"] := fun _ _ _ _ _ _ us hl => match us, hl with | [_, _, _], _ => rfl
theorem bi_worth_of : Bi "worth_of" "worth_of" S_worth_of ["book", "some"] := fun _ _ _ _ _ _ us hl => match us, hl with | [_, _], _ => rfl
theorem bi_is_price : Bi "is_price" "is_price" S_is_price ["thing"] := fun _ _ _ _ _ _ us hl => match us, hl with | [_], _ => rfl
theorem bi_is_paper : Bi "is_paper" "is_paper" S_is_paper ["thing"] := fun _ _ _ _ _ _ us hl => match us, hl with | [_], _ => rfl
theorem bi_toll_of : Bi "toll_of" "toll_of" S_toll_of ["stretch", "paper"] := fun _ _ _ _ _ _ us hl => match us, hl with | [_, _], _ => rfl
theorem bi_rest_of : Bi "rest_of" "rest_of" S_rest_of ["stretch", "paper"] := fun _ _ _ _ _ _ us hl => match us, hl with | [_, _], _ => rfl
theorem bi_claim : Bi "claim" "claim" S_claim ["book", "benches", "paper"] := fun _ _ _ _ _ _ us hl => match us, hl with | [_, _, _], _ => rfl
theorem bi_is_step : Bi "is_step" "is_step" S_is_step ["book", "benches", "thing"] := fun _ _ _ _ _ _ us hl => match us, hl with | [_, _, _], _ => rfl
theorem bi_claims_both : Bi "claims_both" "claims_both" S_claims_both ["book", "steps", "benches", "thing"] := fun _ _ _ _ _ _ us hl => match us, hl with | [_, _, _, _], _ => rfl
theorem bi_lets_row : Bi "lets_row" "lets_row" S_lets_row ["book", "thing"] := fun _ _ _ _ _ _ us hl => match us, hl with | [_, _], _ => rfl
theorem bi_init : Bi "__init__" "Line.__init__" S_init ["self", "spans", "must"] := fun _ _ _ _ _ _ us hl => match us, hl with | [_, _, _], _ => rfl
theorem bi_piece_arcs : Bi "piece_arcs" "Line.piece_arcs" S_piece_arcs ["self", "k"] := fun _ _ _ _ _ _ us hl => match us, hl with | [_, _], _ => rfl
theorem bi_span_arc : Bi "span_arc" "Line.span_arc" S_span_arc ["self", "i"] := fun _ _ _ _ _ _ us hl => match us, hl with | [_, _], _ => rfl
theorem bi_arcs_left : Bi "arcs_left" "Line.arcs_left" S_arcs_left ["self"] := fun _ _ _ _ _ _ us hl => match us, hl with | [_], _ => rfl
theorem bi_roads_told : Bi "roads_told" "Line.roads_told" S_roads_told ["self"] := fun _ _ _ _ _ _ us hl => match us, hl with | [_], _ => rfl
theorem bi_go_along : Bi "go_along" "Line.go_along" S_go_along ["self", "arc"] := fun _ _ _ _ _ _ us hl => match us, hl with | [_, _], _ => rfl
theorem bi_send_unit : Bi "send_unit" "Line.send_unit" S_send_unit ["self"] := fun _ _ _ _ _ _ us hl => match us, hl with | [_], _ => rfl
theorem bi_greatest_over : Bi "greatest_over" "Line.greatest_over" S_greatest_over ["self", "k"] := fun _ _ _ _ _ _ us hl => match us, hl with | [_, _], _ => rfl
theorem bi_prices_now : Bi "prices_now" "Line.prices_now" S_prices_now ["self"] := fun _ _ _ _ _ _ us hl => match us, hl with | [_], _ => rfl
theorem bi_taken_now : Bi "taken_now" "Line.taken_now" S_taken_now ["self"] := fun _ _ _ _ _ _ us hl => match us, hl with | [_], _ => rfl
theorem bi_spans_of : Bi "spans_of" "spans_of" S_spans_of ["book"] := fun _ _ _ _ _ _ us hl => match us, hl with | [_], _ => rfl
theorem bi_pieces_of : Bi "pieces_of" "pieces_of" S_pieces_of ["book"] := fun _ _ _ _ _ _ us hl => match us, hl with | [_], _ => rfl
theorem bi_paper_of : Bi "paper_of" "paper_of" S_paper_of ["moments", "prices"] := fun _ _ _ _ _ _ us hl => match us, hl with | [_, _], _ => rfl
theorem bi_row_of : Bi "row_of" "row_of" S_row_of ["book"] := fun _ _ _ _ _ _ us hl => match us, hl with | [_], _ => rfl
theorem bi_most_by : Bi "most_by" "most_by" S_most_by ["row", "benches"] := fun _ _ _ _ _ _ us hl => match us, hl with | [_, _], _ => rfl
theorem bi_law_begun : Bi "_law_begun" "_law_begun" S_law_begun ["_law_script", "_law_k"] := fun _ _ _ _ _ _ us hl => match us, hl with | [_, _], _ => rfl
theorem bi_law_take : Bi "_law_take" "_law_take" S_law_take ["_law_state", "_law_many"] := fun _ _ _ _ _ _ us hl => match us, hl with | [_, _], _ => rfl
theorem bi_law_name : Bi "_law_name" "_law_name" S_law_name ["_law_state", "_law_k"] := fun _ _ _ _ _ _ us hl => match us, hl with | [_, _], _ => rfl
theorem bi_law_book : Bi "_law_book" "_law_book" S_law_book ["_law_state", "_law_most"] := fun _ _ _ _ _ _ us hl => match us, hl with | [_, _], _ => rfl
theorem bi_law_load : Bi "_law_load" "_law_load" S_law_load ["_law_book_here", "_law_some", "_law_moment"] := fun _ _ _ _ _ _ us hl => match us, hl with | [_, _, _], _ => rfl
theorem bi_law_fits : Bi "_law_fits" "_law_fits" S_law_fits ["_law_book_here", "_law_some", "_law_benches"] := fun _ _ _ _ _ _ us hl => match us, hl with | [_, _, _], _ => rfl
theorem bi_law_worth : Bi "_law_worth" "_law_worth" S_law_worth ["_law_book_here", "_law_some"] := fun _ _ _ _ _ _ us hl => match us, hl with | [_, _], _ => rfl
theorem bi_law_choices : Bi "_law_choices" "_law_choices" S_law_choices ["_law_book_here", "_law_benches"] := fun _ _ _ _ _ _ us hl => match us, hl with | [_, _], _ => rfl
theorem bi_law_step : Bi "_law_step" "_law_step" S_law_step ["_law_state", "_law_book_here", "_law_benches"] := fun _ _ _ _ _ _ us hl => match us, hl with | [_, _, _], _ => rfl
theorem bi_law : Bi "law" "law" S_law ["_law_script"] := fun _ _ _ _ _ _ us hl => match us, hl with | [_], _ => rfl
noncomputable def df_mk {K : PySem.W.Frag} {h : Heap} {mg : Str → Option Value} {x : Str} {st : Stmt} {ps : List Str} {f : Addr} {od an : Option Addr} {sl : Array (Option Value)} {oc kv dc pm cd ct : Value} (X : K.In h) (G : h.Ns mainGlobals mg) (b : Bi x x st ps)
    (a : PySem.W.nsIn K mainGlobals x = some (some (.ref f))) (l : K.lookup f = some ⟨oc, od, .func (PySem.W.fnOf x x (defArgs st) (defBody st) (defScope st) .none kv dc pm an cd ct), sl⟩) (c : PySem.W.codeIn K cd x = true) (k : PySem.W.keepIn K (.ref f) = true) : Df K mg x st ps :=
  ⟨f, _, fun_mk (st := st) l c k, (fun_mk (st := st) l c k).binds b, PySem.W.mg_of X G a⟩
theorem use_df {R : Prop} {K : PySem.W.Frag} {h : Heap} {mg : Str → Option Value} {x : Str} {st : Stmt} {ps : List Str} {f : Addr} {od an : Option Addr} {sl : Array (Option Value)} {oc kv dc pm cd ct : Value} (X : K.In h) (G : h.Ns mainGlobals mg) (b : Bi x x st ps)
    (a : PySem.W.nsIn K mainGlobals x = some (some (.ref f))) (l : K.lookup f = some ⟨oc, od, .func (PySem.W.fnOf x x (defArgs st) (defBody st) (defScope st) .none kv dc pm an cd ct), sl⟩) (c : PySem.W.codeIn K cd x = true) (k : PySem.W.keepIn K (.ref f) = true)
    (n : Df K mg x st ps → R) : R := n (df_mk X G b a l c k)
theorem most_mk {K : PySem.W.Frag} {h : Heap} {mg : Str → Option Value} {t : Tok} (X : K.In h) (G : h.Ns mainGlobals mg) (a : PySem.W.nsIn K mainGlobals "MOST_PRICES" = some (some (.int 48 t))) : ∃ t, mg "MOST_PRICES" = some (.int 48 t) := ⟨t, PySem.W.mg_of X G a⟩
theorem txt_mk {K : PySem.W.Frag} {h : Heap} {mg : Str → Option Value} {C : Addr} (X : K.In h) (G : h.Ns mainGlobals mg)
    (aC : PySem.W.nsIn K mainGlobals "Line" = some (some (.ref C)))
    (pgC : PySem.W.plainGet K C Str.empty = true)
    (hdC : PySem.W.hasDictIn K C = true)
    (poC : PySem.W.plainOver K C = true)
    (saC : PySem.W.findIn K (.ref C) "__setattr__" = some (some (.builtin "object.__setattr__")))
    (mkC : PySem.W.makesIn K C = true)
    (kcC : PySem.W.keepIn K (.ref C) = true)
    (n_filled : PySem.W.findIn K (.ref C) "filled" = some none)
    (n_great : PySem.W.findIn K (.ref C) "great" = some none)
    (n_idle : PySem.W.findIn K (.ref C) "idle" = some none)
    (n_own_must : PySem.W.findIn K (.ref C) "own_must" = some none)
    (n_own_spans : PySem.W.findIn K (.ref C) "own_spans" = some none)
    (n_taken : PySem.W.findIn K (.ref C) "taken" = some none)
    {f_init : Addr} {od_init an_init : Option Addr} {sl_init : Array (Option Value)} {oc_init kv_init dc_init pm_init cd_init ct_init : Value}
    (a_init : PySem.W.findIn K (.ref C) "__init__" = some (some (.ref f_init))) (i_init : PySem.W.isFn K (.ref f_init) = true)
    (l_init : K.lookup f_init = some ⟨oc_init, od_init, .func (PySem.W.fnOf "__init__" "Line.__init__" (defArgs S_init) (defBody S_init) (defScope S_init) .none kv_init dc_init pm_init an_init cd_init ct_init), sl_init⟩)
    (c_init : PySem.W.codeIn K cd_init "Line.__init__" = true) (k_init : PySem.W.keepIn K (.ref f_init) = true)
    {f_piece_arcs : Addr} {od_piece_arcs an_piece_arcs : Option Addr} {sl_piece_arcs : Array (Option Value)} {oc_piece_arcs kv_piece_arcs dc_piece_arcs pm_piece_arcs cd_piece_arcs ct_piece_arcs : Value}
    (a_piece_arcs : PySem.W.findIn K (.ref C) "piece_arcs" = some (some (.ref f_piece_arcs))) (i_piece_arcs : PySem.W.isFn K (.ref f_piece_arcs) = true)
    (l_piece_arcs : K.lookup f_piece_arcs = some ⟨oc_piece_arcs, od_piece_arcs, .func (PySem.W.fnOf "piece_arcs" "Line.piece_arcs" (defArgs S_piece_arcs) (defBody S_piece_arcs) (defScope S_piece_arcs) .none kv_piece_arcs dc_piece_arcs pm_piece_arcs an_piece_arcs cd_piece_arcs ct_piece_arcs), sl_piece_arcs⟩)
    (c_piece_arcs : PySem.W.codeIn K cd_piece_arcs "Line.piece_arcs" = true) (k_piece_arcs : PySem.W.keepIn K (.ref f_piece_arcs) = true)
    {f_span_arc : Addr} {od_span_arc an_span_arc : Option Addr} {sl_span_arc : Array (Option Value)} {oc_span_arc kv_span_arc dc_span_arc pm_span_arc cd_span_arc ct_span_arc : Value}
    (a_span_arc : PySem.W.findIn K (.ref C) "span_arc" = some (some (.ref f_span_arc))) (i_span_arc : PySem.W.isFn K (.ref f_span_arc) = true)
    (l_span_arc : K.lookup f_span_arc = some ⟨oc_span_arc, od_span_arc, .func (PySem.W.fnOf "span_arc" "Line.span_arc" (defArgs S_span_arc) (defBody S_span_arc) (defScope S_span_arc) .none kv_span_arc dc_span_arc pm_span_arc an_span_arc cd_span_arc ct_span_arc), sl_span_arc⟩)
    (c_span_arc : PySem.W.codeIn K cd_span_arc "Line.span_arc" = true) (k_span_arc : PySem.W.keepIn K (.ref f_span_arc) = true)
    {f_arcs_left : Addr} {od_arcs_left an_arcs_left : Option Addr} {sl_arcs_left : Array (Option Value)} {oc_arcs_left kv_arcs_left dc_arcs_left pm_arcs_left cd_arcs_left ct_arcs_left : Value}
    (a_arcs_left : PySem.W.findIn K (.ref C) "arcs_left" = some (some (.ref f_arcs_left))) (i_arcs_left : PySem.W.isFn K (.ref f_arcs_left) = true)
    (l_arcs_left : K.lookup f_arcs_left = some ⟨oc_arcs_left, od_arcs_left, .func (PySem.W.fnOf "arcs_left" "Line.arcs_left" (defArgs S_arcs_left) (defBody S_arcs_left) (defScope S_arcs_left) .none kv_arcs_left dc_arcs_left pm_arcs_left an_arcs_left cd_arcs_left ct_arcs_left), sl_arcs_left⟩)
    (c_arcs_left : PySem.W.codeIn K cd_arcs_left "Line.arcs_left" = true) (k_arcs_left : PySem.W.keepIn K (.ref f_arcs_left) = true)
    {f_roads_told : Addr} {od_roads_told an_roads_told : Option Addr} {sl_roads_told : Array (Option Value)} {oc_roads_told kv_roads_told dc_roads_told pm_roads_told cd_roads_told ct_roads_told : Value}
    (a_roads_told : PySem.W.findIn K (.ref C) "roads_told" = some (some (.ref f_roads_told))) (i_roads_told : PySem.W.isFn K (.ref f_roads_told) = true)
    (l_roads_told : K.lookup f_roads_told = some ⟨oc_roads_told, od_roads_told, .func (PySem.W.fnOf "roads_told" "Line.roads_told" (defArgs S_roads_told) (defBody S_roads_told) (defScope S_roads_told) .none kv_roads_told dc_roads_told pm_roads_told an_roads_told cd_roads_told ct_roads_told), sl_roads_told⟩)
    (c_roads_told : PySem.W.codeIn K cd_roads_told "Line.roads_told" = true) (k_roads_told : PySem.W.keepIn K (.ref f_roads_told) = true)
    {f_go_along : Addr} {od_go_along an_go_along : Option Addr} {sl_go_along : Array (Option Value)} {oc_go_along kv_go_along dc_go_along pm_go_along cd_go_along ct_go_along : Value}
    (a_go_along : PySem.W.findIn K (.ref C) "go_along" = some (some (.ref f_go_along))) (i_go_along : PySem.W.isFn K (.ref f_go_along) = true)
    (l_go_along : K.lookup f_go_along = some ⟨oc_go_along, od_go_along, .func (PySem.W.fnOf "go_along" "Line.go_along" (defArgs S_go_along) (defBody S_go_along) (defScope S_go_along) .none kv_go_along dc_go_along pm_go_along an_go_along cd_go_along ct_go_along), sl_go_along⟩)
    (c_go_along : PySem.W.codeIn K cd_go_along "Line.go_along" = true) (k_go_along : PySem.W.keepIn K (.ref f_go_along) = true)
    {f_send_unit : Addr} {od_send_unit an_send_unit : Option Addr} {sl_send_unit : Array (Option Value)} {oc_send_unit kv_send_unit dc_send_unit pm_send_unit cd_send_unit ct_send_unit : Value}
    (a_send_unit : PySem.W.findIn K (.ref C) "send_unit" = some (some (.ref f_send_unit))) (i_send_unit : PySem.W.isFn K (.ref f_send_unit) = true)
    (l_send_unit : K.lookup f_send_unit = some ⟨oc_send_unit, od_send_unit, .func (PySem.W.fnOf "send_unit" "Line.send_unit" (defArgs S_send_unit) (defBody S_send_unit) (defScope S_send_unit) .none kv_send_unit dc_send_unit pm_send_unit an_send_unit cd_send_unit ct_send_unit), sl_send_unit⟩)
    (c_send_unit : PySem.W.codeIn K cd_send_unit "Line.send_unit" = true) (k_send_unit : PySem.W.keepIn K (.ref f_send_unit) = true)
    {f_greatest_over : Addr} {od_greatest_over an_greatest_over : Option Addr} {sl_greatest_over : Array (Option Value)} {oc_greatest_over kv_greatest_over dc_greatest_over pm_greatest_over cd_greatest_over ct_greatest_over : Value}
    (a_greatest_over : PySem.W.findIn K (.ref C) "greatest_over" = some (some (.ref f_greatest_over))) (i_greatest_over : PySem.W.isFn K (.ref f_greatest_over) = true)
    (l_greatest_over : K.lookup f_greatest_over = some ⟨oc_greatest_over, od_greatest_over, .func (PySem.W.fnOf "greatest_over" "Line.greatest_over" (defArgs S_greatest_over) (defBody S_greatest_over) (defScope S_greatest_over) .none kv_greatest_over dc_greatest_over pm_greatest_over an_greatest_over cd_greatest_over ct_greatest_over), sl_greatest_over⟩)
    (c_greatest_over : PySem.W.codeIn K cd_greatest_over "Line.greatest_over" = true) (k_greatest_over : PySem.W.keepIn K (.ref f_greatest_over) = true)
    {f_prices_now : Addr} {od_prices_now an_prices_now : Option Addr} {sl_prices_now : Array (Option Value)} {oc_prices_now kv_prices_now dc_prices_now pm_prices_now cd_prices_now ct_prices_now : Value}
    (a_prices_now : PySem.W.findIn K (.ref C) "prices_now" = some (some (.ref f_prices_now))) (i_prices_now : PySem.W.isFn K (.ref f_prices_now) = true)
    (l_prices_now : K.lookup f_prices_now = some ⟨oc_prices_now, od_prices_now, .func (PySem.W.fnOf "prices_now" "Line.prices_now" (defArgs S_prices_now) (defBody S_prices_now) (defScope S_prices_now) .none kv_prices_now dc_prices_now pm_prices_now an_prices_now cd_prices_now ct_prices_now), sl_prices_now⟩)
    (c_prices_now : PySem.W.codeIn K cd_prices_now "Line.prices_now" = true) (k_prices_now : PySem.W.keepIn K (.ref f_prices_now) = true)
    {f_taken_now : Addr} {od_taken_now an_taken_now : Option Addr} {sl_taken_now : Array (Option Value)} {oc_taken_now kv_taken_now dc_taken_now pm_taken_now cd_taken_now ct_taken_now : Value}
    (a_taken_now : PySem.W.findIn K (.ref C) "taken_now" = some (some (.ref f_taken_now))) (i_taken_now : PySem.W.isFn K (.ref f_taken_now) = true)
    (l_taken_now : K.lookup f_taken_now = some ⟨oc_taken_now, od_taken_now, .func (PySem.W.fnOf "taken_now" "Line.taken_now" (defArgs S_taken_now) (defBody S_taken_now) (defScope S_taken_now) .none kv_taken_now dc_taken_now pm_taken_now an_taken_now cd_taken_now ct_taken_now), sl_taken_now⟩)
    (c_taken_now : PySem.W.codeIn K cd_taken_now "Line.taken_now" = true) (k_taken_now : PySem.W.keepIn K (.ref f_taken_now) = true)
    (b_all : PySem.W.nsIn K mainGlobals "all" = some none)
    (b_bool : PySem.W.nsIn K mainGlobals "bool" = some none)
    (b_enumerate : PySem.W.nsIn K mainGlobals "enumerate" = some none)
    (b_int : PySem.W.nsIn K mainGlobals "int" = some none)
    (b_isinstance : PySem.W.nsIn K mainGlobals "isinstance" = some none)
    (b_len : PySem.W.nsIn K mainGlobals "len" = some none)
    (b_list : PySem.W.nsIn K mainGlobals "list" = some none)
    (b_max : PySem.W.nsIn K mainGlobals "max" = some none)
    (b_min : PySem.W.nsIn K mainGlobals "min" = some none)
    (b_range : PySem.W.nsIn K mainGlobals "range" = some none)
    (b_set : PySem.W.nsIn K mainGlobals "set" = some none)
    (b_sorted : PySem.W.nsIn K mainGlobals "sorted" = some none)
    (b_str : PySem.W.nsIn K mainGlobals "str" = some none)
    (b_sum : PySem.W.nsIn K mainGlobals "sum" = some none)
    (b_tuple : PySem.W.nsIn K mainGlobals "tuple" = some none)
    (b_zip : PySem.W.nsIn K mainGlobals "zip" = some none)
    (d_is_whole : Df K mg "is_whole" S_is_whole ["thing"])
    (d_is_over : Df K mg "is_over" S_is_over ["stretch", "moment"])
    (d_moments_of : Df K mg "moments_of" S_moments_of ["book"])
    (d_load_at : Df K mg "load_at" S_load_at ["book", "some", "moment"])
    (d_loads_of : Df K mg "loads_of" S_loads_of ["book", "some"])
    (d_crowd_of : Df K mg "crowd_of" S_crowd_of ["book", "some"])
    (d_is_some : Df K mg "is_some" S_is_some ["many", "thing"])
    (d_is_choice : Df K mg "is_choice" S_is_choice ["book", "benches", "thing"])
    (d_worth_of : Df K mg "worth_of" S_worth_of ["book", "some"])
    (d_is_price : Df K mg "is_price" S_is_price ["thing"])
    (d_is_paper : Df K mg "is_paper" S_is_paper ["thing"])
    (d_toll_of : Df K mg "toll_of" S_toll_of ["stretch", "paper"])
    (d_rest_of : Df K mg "rest_of" S_rest_of ["stretch", "paper"])
    (d_claim : Df K mg "claim" S_claim ["book", "benches", "paper"])
    (d_is_step : Df K mg "is_step" S_is_step ["book", "benches", "thing"])
    (d_claims_both : Df K mg "claims_both" S_claims_both ["book", "steps", "benches", "thing"])
    (d_lets_row : Df K mg "lets_row" S_lets_row ["book", "thing"])
    (d_spans_of : Df K mg "spans_of" S_spans_of ["book"])
    (d_pieces_of : Df K mg "pieces_of" S_pieces_of ["book"])
    (d_paper_of : Df K mg "paper_of" S_paper_of ["moments", "prices"])
    (d_row_of : Df K mg "row_of" S_row_of ["book"])
    (d_most_by : Df K mg "most_by" S_most_by ["row", "benches"])
    (d_law_begun : Df K mg "_law_begun" S_law_begun ["_law_script", "_law_k"])
    (d_law_take : Df K mg "_law_take" S_law_take ["_law_state", "_law_many"])
    (d_law_name : Df K mg "_law_name" S_law_name ["_law_state", "_law_k"])
    (d_law_book : Df K mg "_law_book" S_law_book ["_law_state", "_law_most"])
    (d_law_load : Df K mg "_law_load" S_law_load ["_law_book_here", "_law_some", "_law_moment"])
    (d_law_fits : Df K mg "_law_fits" S_law_fits ["_law_book_here", "_law_some", "_law_benches"])
    (d_law_worth : Df K mg "_law_worth" S_law_worth ["_law_book_here", "_law_some"])
    (d_law_choices : Df K mg "_law_choices" S_law_choices ["_law_book_here", "_law_benches"])
    (d_law_step : Df K mg "_law_step" S_law_step ["_law_state", "_law_book_here", "_law_benches"])
    (d_law : Df K mg "law" S_law ["_law_script"])
    (p1 : ∃ t, mg "MOST_PRICES" = some (.int 48 t)) (p2 : ∃ t, mg "GREATEST_PRICE" = some (.int 10000000000000 t)) (p3 : ∃ t, mg "FARTHEST" = some (.int 1000000000000 t)) : ∃ T : Txt K mg, T.d_law = d_law := by
  obtain ⟨t1, p1⟩ := p1
  obtain ⟨t2, p2⟩ := p2
  obtain ⟨t3, p3⟩ := p3
  have F_init := fun_mk (st := S_init) l_init c_init k_init
  have F_piece_arcs := fun_mk (st := S_piece_arcs) l_piece_arcs c_piece_arcs k_piece_arcs
  have F_span_arc := fun_mk (st := S_span_arc) l_span_arc c_span_arc k_span_arc
  have F_arcs_left := fun_mk (st := S_arcs_left) l_arcs_left c_arcs_left k_arcs_left
  have F_roads_told := fun_mk (st := S_roads_told) l_roads_told c_roads_told k_roads_told
  have F_go_along := fun_mk (st := S_go_along) l_go_along c_go_along k_go_along
  have F_send_unit := fun_mk (st := S_send_unit) l_send_unit c_send_unit k_send_unit
  have F_greatest_over := fun_mk (st := S_greatest_over) l_greatest_over c_greatest_over k_greatest_over
  have F_prices_now := fun_mk (st := S_prices_now) l_prices_now c_prices_now k_prices_now
  have F_taken_now := fun_mk (st := S_taken_now) l_taken_now c_taken_now k_taken_now
  exact ⟨{
    C := C
    cl := ⟨pgC, hdC, poC, saC⟩
    mgL := PySem.W.mg_of X G aC
    d_is_whole := d_is_whole
    d_is_over := d_is_over
    d_moments_of := d_moments_of
    d_load_at := d_load_at
    d_loads_of := d_loads_of
    d_crowd_of := d_crowd_of
    d_is_some := d_is_some
    d_is_choice := d_is_choice
    d_worth_of := d_worth_of
    d_is_price := d_is_price
    d_is_paper := d_is_paper
    d_toll_of := d_toll_of
    d_rest_of := d_rest_of
    d_claim := d_claim
    d_is_step := d_is_step
    d_claims_both := d_claims_both
    d_lets_row := d_lets_row
    d_spans_of := d_spans_of
    d_pieces_of := d_pieces_of
    d_paper_of := d_paper_of
    d_row_of := d_row_of
    d_most_by := d_most_by
    d_law_begun := d_law_begun
    d_law_take := d_law_take
    d_law_name := d_law_name
    d_law_book := d_law_book
    d_law_load := d_law_load
    d_law_fits := d_law_fits
    d_law_worth := d_law_worth
    d_law_choices := d_law_choices
    d_law_step := d_law_step
    d_law := d_law
    m_init := ⟨f_init, _, F_init, F_init.binds bi_init, ⟨a_init, i_init, k_init⟩⟩
    m_piece_arcs := ⟨f_piece_arcs, _, F_piece_arcs, F_piece_arcs.binds bi_piece_arcs, ⟨a_piece_arcs, i_piece_arcs, k_piece_arcs⟩⟩
    m_span_arc := ⟨f_span_arc, _, F_span_arc, F_span_arc.binds bi_span_arc, ⟨a_span_arc, i_span_arc, k_span_arc⟩⟩
    m_arcs_left := ⟨f_arcs_left, _, F_arcs_left, F_arcs_left.binds bi_arcs_left, ⟨a_arcs_left, i_arcs_left, k_arcs_left⟩⟩
    m_roads_told := ⟨f_roads_told, _, F_roads_told, F_roads_told.binds bi_roads_told, ⟨a_roads_told, i_roads_told, k_roads_told⟩⟩
    m_go_along := ⟨f_go_along, _, F_go_along, F_go_along.binds bi_go_along, ⟨a_go_along, i_go_along, k_go_along⟩⟩
    m_send_unit := ⟨f_send_unit, _, F_send_unit, F_send_unit.binds bi_send_unit, ⟨a_send_unit, i_send_unit, k_send_unit⟩⟩
    m_greatest_over := ⟨f_greatest_over, _, F_greatest_over, F_greatest_over.binds bi_greatest_over, ⟨a_greatest_over, i_greatest_over, k_greatest_over⟩⟩
    m_prices_now := ⟨f_prices_now, _, F_prices_now, F_prices_now.binds bi_prices_now, ⟨a_prices_now, i_prices_now, k_prices_now⟩⟩
    m_taken_now := ⟨f_taken_now, _, F_taken_now, F_taken_now.binds bi_taken_now, ⟨a_taken_now, i_taken_now, k_taken_now⟩⟩
    mkL := ⟨mkC, a_init, i_init, kcC⟩
    a_filled := n_filled
    a_great := n_great
    a_idle := n_idle
    a_own_must := n_own_must
    a_own_spans := n_own_spans
    a_taken := n_taken
    n_all := PySem.W.mg_none_of X G b_all
    n_bool := PySem.W.mg_none_of X G b_bool
    n_enumerate := PySem.W.mg_none_of X G b_enumerate
    n_int := PySem.W.mg_none_of X G b_int
    n_isinstance := PySem.W.mg_none_of X G b_isinstance
    n_len := PySem.W.mg_none_of X G b_len
    n_list := PySem.W.mg_none_of X G b_list
    n_max := PySem.W.mg_none_of X G b_max
    n_min := PySem.W.mg_none_of X G b_min
    n_range := PySem.W.mg_none_of X G b_range
    n_set := PySem.W.mg_none_of X G b_set
    n_sorted := PySem.W.mg_none_of X G b_sorted
    n_str := PySem.W.mg_none_of X G b_str
    n_sum := PySem.W.mg_none_of X G b_sum
    n_tuple := PySem.W.mg_none_of X G b_tuple
    n_zip := PySem.W.mg_none_of X G b_zip
    t_MOST_PRICES := t1
    c_MOST_PRICES := p1
    t_GREATEST_PRICE := t2
    c_GREATEST_PRICE := p2
    t_FARTHEST := t3
    c_FARTHEST := p3
  }, rfl⟩
theorem loose_int {lv : List (Str × PySem.W.WData)} {mg : Str → Option Value} {h : Heap} {x : Str} {n : Int} (L : PySem.W.LooseAre lv mg h) (m : (x, PySem.W.WData.int n) ∈ lv) : ∃ t, mg x = some (.int n t) := by
  obtain ⟨v, h1, h2⟩ := L.val _ m
  obtain ⟨t, he, _⟩ := PySem.W.readsW_int_inv h2
  exact ⟨t, by rw [h1, he]⟩
/-- from the text to the law's promise -/
theorem tell {P : Program} {w : World} {K : PySem.W.Frag} {mg : Str → Option Value} {fa : Addr} {d_law : Df K mg "law" S_law ["_law_script"]} (TT : ∃ T : Txt K mg, T.d_law = d_law) (hfa : mg "law" = some (.ref fa)) :
    ∃ fd : FuncData, (∀ (s : Shared) (u : Value), BindsTo s fd ⟨[u], []⟩ [("_law_script", u)]) ∧ ∀ base : Heap, K.In base → base.Ns mainGlobals mg → FnOk P w K mg base CX0 8 fa fd ["_law_script"] (sp_law K) := by
  obtain ⟨T, _⟩ := TT
  have e := hfa.symm.trans T.d_law.m
  cases e
  refine ⟨T.d_law.fd, ?_, fun base _ _ => ok_law T⟩
  obtain ⟨oc, od, kv, dc, pm, an, cd, ct, sl, e, _, _⟩ := T.d_law.F.ex
  rw [e]
  exact fun s u => .of_eq rfl
/-- the law's walk, the loose names told -/
theorem walk_end {l : PySem.W.OpenLaw} {q : Program} {loose : List Str} {XP : (Str → Option Value) → Heap → Prop} {YP : World → Heap → Prop} {d : DefRec} {K : Params → PySem.W.Frag} (h1 : l.most = some 63) (h2 : d.params.defaults = [])
    (h3 : ∀ (w : World) (h : Heap), YP w h → (K w.params).In h)
    (F : ∀ (w : World) (mg : Str → Option Value) (fa : Addr) (h : Heap), (K w.params).In h → h.Ns mainGlobals mg → XP mg h → mg d.name = some (.ref fa) →
      ∃ fd : FuncData, (∀ (s : Shared) (u : Value), BindsTo s fd ⟨[u], []⟩ [("_law_script", u)]) ∧ ∀ base : Heap, (K w.params).In base → base.Ns mainGlobals mg → FnOk l.prog w (K w.params) mg base CX0 8 fa fd ["_law_script"] (sp_law (K w.params))) :
    PySem.W.WalkO q loose XP YP l.row.toRowW d [] (fun f vs => PySem.call f vs) := by
  refine Att.attach_call h1 h2 fun w s0 s1 mg mb fa o pm cd dc a vs ns G Y ho hd hcd hmg hobj hints hlen hg => ?_
  have X := h3 w _ Y
  obtain ⟨fd, hb, hF⟩ := F w mg fa _ X G.T.g G.X hmg
  exact law_call X G.T.g G.T.b G.T.builtins G.T.nolimit hg hobj hints (Nat.le_trans hlen (by decide)) ⟨rfl, by decide, by decide⟩ hF hb (fun H _ hS => ⟨_, ns, rfl, rLst_int.mpr ⟨a, rfl, hS⟩, fun _ _ => rfl⟩) fun _ _ _ z => z
end BW
open PySem PySem.W PyProof.Rows L2 BW
set_option maxRecDepth 100000 in
set_option maxHeartbeats 0 in
theorem PySem.Challenge.cw_benchworth_k40_whole_rows_are_the_most_holds : PySem.Challenge.rw_benchworth_k40_whole_rows_are_the_most.Holds := by
  w_on; o_law; k_head; (case hw => w_witness2)
  k_fill
  refine BW.walk_end (l := PySem.Challenge.rw_benchworth_k40_whole_rows_are_the_most) rfl rfl (fun w h Y => PySem.W.kIn_of Y) ?F
  case F =>
    intro w mg fa h KX G LX hmg
    have p2 : ∃ t, mg "GREATEST_PRICE" = some (.int 10000000000000 t) := BW.loose_int LX.2 (by first | exact List.mem_cons_self | exact List.mem_cons_of_mem _ List.mem_cons_self)
    have p3 : ∃ t, mg "FARTHEST" = some (.int 1000000000000 t) := BW.loose_int LX.2 (by first | exact List.mem_cons_self | exact List.mem_cons_of_mem _ List.mem_cons_self)
    refine' use_df KX G bi_is_whole ?a_is_whole ?l_is_whole ?c_is_whole ?k_is_whole ?z_is_whole
    (case a_is_whole => k_is)
    (case l_is_whole => k_is)
    (case c_is_whole => k_is)
    (case k_is_whole => k_is)
    intro d_is_whole
    refine' use_df KX G bi_is_over ?a_is_over ?l_is_over ?c_is_over ?k_is_over ?z_is_over
    (case a_is_over => k_is)
    (case l_is_over => k_is)
    (case c_is_over => k_is)
    (case k_is_over => k_is)
    intro d_is_over
    refine' use_df KX G bi_moments_of ?a_moments_of ?l_moments_of ?c_moments_of ?k_moments_of ?z_moments_of
    (case a_moments_of => k_is)
    (case l_moments_of => k_is)
    (case c_moments_of => k_is)
    (case k_moments_of => k_is)
    intro d_moments_of
    refine' use_df KX G bi_load_at ?a_load_at ?l_load_at ?c_load_at ?k_load_at ?z_load_at
    (case a_load_at => k_is)
    (case l_load_at => k_is)
    (case c_load_at => k_is)
    (case k_load_at => k_is)
    intro d_load_at
    refine' use_df KX G bi_loads_of ?a_loads_of ?l_loads_of ?c_loads_of ?k_loads_of ?z_loads_of
    (case a_loads_of => k_is)
    (case l_loads_of => k_is)
    (case c_loads_of => k_is)
    (case k_loads_of => k_is)
    intro d_loads_of
    refine' use_df KX G bi_crowd_of ?a_crowd_of ?l_crowd_of ?c_crowd_of ?k_crowd_of ?z_crowd_of
    (case a_crowd_of => k_is)
    (case l_crowd_of => k_is)
    (case c_crowd_of => k_is)
    (case k_crowd_of => k_is)
    intro d_crowd_of
    refine' use_df KX G bi_is_some ?a_is_some ?l_is_some ?c_is_some ?k_is_some ?z_is_some
    (case a_is_some => k_is)
    (case l_is_some => k_is)
    (case c_is_some => k_is)
    (case k_is_some => k_is)
    intro d_is_some
    refine' use_df KX G bi_is_choice ?a_is_choice ?l_is_choice ?c_is_choice ?k_is_choice ?z_is_choice
    (case a_is_choice => k_is)
    (case l_is_choice => k_is)
    (case c_is_choice => k_is)
    (case k_is_choice => k_is)
    intro d_is_choice
    refine' use_df KX G bi_worth_of ?a_worth_of ?l_worth_of ?c_worth_of ?k_worth_of ?z_worth_of
    (case a_worth_of => k_is)
    (case l_worth_of => k_is)
    (case c_worth_of => k_is)
    (case k_worth_of => k_is)
    intro d_worth_of
    refine' use_df KX G bi_is_price ?a_is_price ?l_is_price ?c_is_price ?k_is_price ?z_is_price
    (case a_is_price => k_is)
    (case l_is_price => k_is)
    (case c_is_price => k_is)
    (case k_is_price => k_is)
    intro d_is_price
    refine' use_df KX G bi_is_paper ?a_is_paper ?l_is_paper ?c_is_paper ?k_is_paper ?z_is_paper
    (case a_is_paper => k_is)
    (case l_is_paper => k_is)
    (case c_is_paper => k_is)
    (case k_is_paper => k_is)
    intro d_is_paper
    refine' use_df KX G bi_toll_of ?a_toll_of ?l_toll_of ?c_toll_of ?k_toll_of ?z_toll_of
    (case a_toll_of => k_is)
    (case l_toll_of => k_is)
    (case c_toll_of => k_is)
    (case k_toll_of => k_is)
    intro d_toll_of
    refine' use_df KX G bi_rest_of ?a_rest_of ?l_rest_of ?c_rest_of ?k_rest_of ?z_rest_of
    (case a_rest_of => k_is)
    (case l_rest_of => k_is)
    (case c_rest_of => k_is)
    (case k_rest_of => k_is)
    intro d_rest_of
    refine' use_df KX G bi_claim ?a_claim ?l_claim ?c_claim ?k_claim ?z_claim
    (case a_claim => k_is)
    (case l_claim => k_is)
    (case c_claim => k_is)
    (case k_claim => k_is)
    intro d_claim
    refine' use_df KX G bi_is_step ?a_is_step ?l_is_step ?c_is_step ?k_is_step ?z_is_step
    (case a_is_step => k_is)
    (case l_is_step => k_is)
    (case c_is_step => k_is)
    (case k_is_step => k_is)
    intro d_is_step
    refine' use_df KX G bi_claims_both ?a_claims_both ?l_claims_both ?c_claims_both ?k_claims_both ?z_claims_both
    (case a_claims_both => k_is)
    (case l_claims_both => k_is)
    (case c_claims_both => k_is)
    (case k_claims_both => k_is)
    intro d_claims_both
    refine' use_df KX G bi_lets_row ?a_lets_row ?l_lets_row ?c_lets_row ?k_lets_row ?z_lets_row
    (case a_lets_row => k_is)
    (case l_lets_row => k_is)
    (case c_lets_row => k_is)
    (case k_lets_row => k_is)
    intro d_lets_row
    refine' use_df KX G bi_spans_of ?a_spans_of ?l_spans_of ?c_spans_of ?k_spans_of ?z_spans_of
    (case a_spans_of => k_is)
    (case l_spans_of => k_is)
    (case c_spans_of => k_is)
    (case k_spans_of => k_is)
    intro d_spans_of
    refine' use_df KX G bi_pieces_of ?a_pieces_of ?l_pieces_of ?c_pieces_of ?k_pieces_of ?z_pieces_of
    (case a_pieces_of => k_is)
    (case l_pieces_of => k_is)
    (case c_pieces_of => k_is)
    (case k_pieces_of => k_is)
    intro d_pieces_of
    refine' use_df KX G bi_paper_of ?a_paper_of ?l_paper_of ?c_paper_of ?k_paper_of ?z_paper_of
    (case a_paper_of => k_is)
    (case l_paper_of => k_is)
    (case c_paper_of => k_is)
    (case k_paper_of => k_is)
    intro d_paper_of
    refine' use_df KX G bi_row_of ?a_row_of ?l_row_of ?c_row_of ?k_row_of ?z_row_of
    (case a_row_of => k_is)
    (case l_row_of => k_is)
    (case c_row_of => k_is)
    (case k_row_of => k_is)
    intro d_row_of
    refine' use_df KX G bi_most_by ?a_most_by ?l_most_by ?c_most_by ?k_most_by ?z_most_by
    (case a_most_by => k_is)
    (case l_most_by => k_is)
    (case c_most_by => k_is)
    (case k_most_by => k_is)
    intro d_most_by
    refine' use_df KX G bi_law_begun ?a_law_begun ?l_law_begun ?c_law_begun ?k_law_begun ?z_law_begun
    (case a_law_begun => k_is)
    (case l_law_begun => k_is)
    (case c_law_begun => k_is)
    (case k_law_begun => k_is)
    intro d_law_begun
    refine' use_df KX G bi_law_take ?a_law_take ?l_law_take ?c_law_take ?k_law_take ?z_law_take
    (case a_law_take => k_is)
    (case l_law_take => k_is)
    (case c_law_take => k_is)
    (case k_law_take => k_is)
    intro d_law_take
    refine' use_df KX G bi_law_name ?a_law_name ?l_law_name ?c_law_name ?k_law_name ?z_law_name
    (case a_law_name => k_is)
    (case l_law_name => k_is)
    (case c_law_name => k_is)
    (case k_law_name => k_is)
    intro d_law_name
    refine' use_df KX G bi_law_book ?a_law_book ?l_law_book ?c_law_book ?k_law_book ?z_law_book
    (case a_law_book => k_is)
    (case l_law_book => k_is)
    (case c_law_book => k_is)
    (case k_law_book => k_is)
    intro d_law_book
    refine' use_df KX G bi_law_load ?a_law_load ?l_law_load ?c_law_load ?k_law_load ?z_law_load
    (case a_law_load => k_is)
    (case l_law_load => k_is)
    (case c_law_load => k_is)
    (case k_law_load => k_is)
    intro d_law_load
    refine' use_df KX G bi_law_fits ?a_law_fits ?l_law_fits ?c_law_fits ?k_law_fits ?z_law_fits
    (case a_law_fits => k_is)
    (case l_law_fits => k_is)
    (case c_law_fits => k_is)
    (case k_law_fits => k_is)
    intro d_law_fits
    refine' use_df KX G bi_law_worth ?a_law_worth ?l_law_worth ?c_law_worth ?k_law_worth ?z_law_worth
    (case a_law_worth => k_is)
    (case l_law_worth => k_is)
    (case c_law_worth => k_is)
    (case k_law_worth => k_is)
    intro d_law_worth
    refine' use_df KX G bi_law_choices ?a_law_choices ?l_law_choices ?c_law_choices ?k_law_choices ?z_law_choices
    (case a_law_choices => k_is)
    (case l_law_choices => k_is)
    (case c_law_choices => k_is)
    (case k_law_choices => k_is)
    intro d_law_choices
    refine' use_df KX G bi_law_step ?a_law_step ?l_law_step ?c_law_step ?k_law_step ?z_law_step
    (case a_law_step => k_is)
    (case l_law_step => k_is)
    (case c_law_step => k_is)
    (case k_law_step => k_is)
    intro d_law_step
    refine' use_df KX G bi_law ?a_law ?l_law ?c_law ?k_law ?z_law
    (case a_law => k_is)
    (case l_law => k_is)
    (case c_law => k_is)
    (case k_law => k_is)
    intro d_law
    refine' tell (txt_mk KX G ?aC ?pgC ?hdC ?poC ?saC ?mkC ?kcC ?n_filled ?n_great ?n_idle ?n_own_must ?n_own_spans ?n_taken ?a_init ?i_init ?l_init ?c_init ?k_init ?a_piece_arcs ?i_piece_arcs ?l_piece_arcs ?c_piece_arcs ?k_piece_arcs ?a_span_arc ?i_span_arc ?l_span_arc ?c_span_arc ?k_span_arc ?a_arcs_left ?i_arcs_left ?l_arcs_left ?c_arcs_left ?k_arcs_left ?a_roads_told ?i_roads_told ?l_roads_told ?c_roads_told ?k_roads_told ?a_go_along ?i_go_along ?l_go_along ?c_go_along ?k_go_along ?a_send_unit ?i_send_unit ?l_send_unit ?c_send_unit ?k_send_unit ?a_greatest_over ?i_greatest_over ?l_greatest_over ?c_greatest_over ?k_greatest_over ?a_prices_now ?i_prices_now ?l_prices_now ?c_prices_now ?k_prices_now ?a_taken_now ?i_taken_now ?l_taken_now ?c_taken_now ?k_taken_now ?b_all ?b_bool ?b_enumerate ?b_int ?b_isinstance ?b_len ?b_list ?b_max ?b_min ?b_range ?b_set ?b_sorted ?b_str ?b_sum ?b_tuple ?b_zip d_is_whole d_is_over d_moments_of d_load_at d_loads_of d_crowd_of d_is_some d_is_choice d_worth_of d_is_price d_is_paper d_toll_of d_rest_of d_claim d_is_step d_claims_both d_lets_row d_spans_of d_pieces_of d_paper_of d_row_of d_most_by d_law_begun d_law_take d_law_name d_law_book d_law_load d_law_fits d_law_worth d_law_choices d_law_step d_law (most_mk KX G ?mp) p2 p3) hmg
    (case aC => k_is)
    (case pgC => k_is)
    (case hdC => k_is)
    (case poC => k_is)
    (case saC => k_is)
    (case mkC => k_is)
    (case kcC => k_is)
    (case n_filled => k_is)
    (case n_great => k_is)
    (case n_idle => k_is)
    (case n_own_must => k_is)
    (case n_own_spans => k_is)
    (case n_taken => k_is)
    (case a_init => k_is)
    (case i_init => k_is)
    (case l_init => k_is)
    (case c_init => k_is)
    (case k_init => k_is)
    (case a_piece_arcs => k_is)
    (case i_piece_arcs => k_is)
    (case l_piece_arcs => k_is)
    (case c_piece_arcs => k_is)
    (case k_piece_arcs => k_is)
    (case a_span_arc => k_is)
    (case i_span_arc => k_is)
    (case l_span_arc => k_is)
    (case c_span_arc => k_is)
    (case k_span_arc => k_is)
    (case a_arcs_left => k_is)
    (case i_arcs_left => k_is)
    (case l_arcs_left => k_is)
    (case c_arcs_left => k_is)
    (case k_arcs_left => k_is)
    (case a_roads_told => k_is)
    (case i_roads_told => k_is)
    (case l_roads_told => k_is)
    (case c_roads_told => k_is)
    (case k_roads_told => k_is)
    (case a_go_along => k_is)
    (case i_go_along => k_is)
    (case l_go_along => k_is)
    (case c_go_along => k_is)
    (case k_go_along => k_is)
    (case a_send_unit => k_is)
    (case i_send_unit => k_is)
    (case l_send_unit => k_is)
    (case c_send_unit => k_is)
    (case k_send_unit => k_is)
    (case a_greatest_over => k_is)
    (case i_greatest_over => k_is)
    (case l_greatest_over => k_is)
    (case c_greatest_over => k_is)
    (case k_greatest_over => k_is)
    (case a_prices_now => k_is)
    (case i_prices_now => k_is)
    (case l_prices_now => k_is)
    (case c_prices_now => k_is)
    (case k_prices_now => k_is)
    (case a_taken_now => k_is)
    (case i_taken_now => k_is)
    (case l_taken_now => k_is)
    (case c_taken_now => k_is)
    (case k_taken_now => k_is)
    (case b_all => k_is)
    (case b_bool => k_is)
    (case b_enumerate => k_is)
    (case b_int => k_is)
    (case b_isinstance => k_is)
    (case b_len => k_is)
    (case b_list => k_is)
    (case b_max => k_is)
    (case b_min => k_is)
    (case b_range => k_is)
    (case b_set => k_is)
    (case b_sorted => k_is)
    (case b_str => k_is)
    (case b_sum => k_is)
    (case b_tuple => k_is)
    (case b_zip => k_is)
    (case mp => k_is)
