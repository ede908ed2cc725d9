import PyProof.Rows.All
import Wide.All
import OpenK.AllK
import Wide.FinOn
import HandS.ForMost
import HandS.Set
import HandS.Strs
import HandS.SetFor
import KE.SortData
import HandS.Property
import HandS.DictComp
import HandS.SetKeys
import HandS.Style
import HandS.Conv
import HandS.More
import HandS.Walk
import HandS.WordsDict
import HandS.Text
import HandS.Deep
import PySem.Challenge.RW_metersure_k31_whole_ranges_of_small_plan
/-! Flows on a plant, in plain Lean: balances, cuts, pushing along a simple path, in-between flows. No program here. -/
set_option linter.all false
namespace Ms
universe u
section
variable {α : Type}

/-! ### sums over lists -/
def tot {β : Type} (l : List β) (g : β → Int) : Int := (l.map g).sum
theorem tot_nil {β : Type} (g : β → Int) : tot [] g = 0 := rfl
theorem tot_cons {β : Type} (x : β) (l : List β) (g : β → Int) : tot (x :: l) g = g x + tot l g := by
  unfold tot; rw [List.map_cons, List.sum_cons]
theorem tot_append {β : Type} (l m : List β) (g : β → Int) : tot (l ++ m) g = tot l g + tot m g := by
  induction l with
  | nil => rw [List.nil_append, tot_nil]; omega
  | cons x l ih => rw [List.cons_append, tot_cons, tot_cons, ih]; omega
theorem tot_congr {β : Type} {l : List β} {g h : β → Int} (e : ∀ x ∈ l, g x = h x) : tot l g = tot l h := by
  induction l with
  | nil => rfl
  | cons x l ih =>
    rw [tot_cons, tot_cons, e x List.mem_cons_self, ih fun y hy => e y (List.mem_cons_of_mem _ hy)]
theorem tot_add {β : Type} (l : List β) (g h : β → Int) : tot l (fun x => g x + h x) = tot l g + tot l h := by
  induction l with
  | nil => rfl
  | cons x l ih => rw [tot_cons, tot_cons, tot_cons, ih]; omega
theorem tot_sub {β : Type} (l : List β) (g h : β → Int) : tot l (fun x => g x - h x) = tot l g - tot l h := by
  induction l with
  | nil => rfl
  | cons x l ih => rw [tot_cons, tot_cons, tot_cons, ih]; omega
theorem tot_zero {β : Type} (l : List β) : tot l (fun _ => 0) = 0 := by
  induction l with
  | nil => rfl
  | cons x l ih => rw [tot_cons, ih]; rfl
theorem tot_le {β : Type} {l : List β} {g h : β → Int} (e : ∀ x ∈ l, g x ≤ h x) : tot l g ≤ tot l h := by
  induction l with
  | nil => exact Int.le_refl _
  | cons x l ih =>
    have a := e x List.mem_cons_self
    have b := ih fun y hy => e y (List.mem_cons_of_mem _ hy)
    rw [tot_cons, tot_cons]; omega
theorem tot_nonneg {β : Type} {l : List β} {g : β → Int} (e : ∀ x ∈ l, 0 ≤ g x) : 0 ≤ tot l g := by
  have := tot_le (l := l) (g := fun _ => 0) (h := g) e
  rw [tot_zero] at this; exact this
/-- a sum of parts, none below 0, that is not above 0: all are 0 -/
theorem tot_all_zero {β : Type} {l : List β} {g : β → Int} (e : ∀ x ∈ l, 0 ≤ g x) (z : tot l g ≤ 0) : ∀ x ∈ l, g x = 0 := by
  induction l with
  | nil => intro x hx; cases hx
  | cons y l ih =>
    have a := e y List.mem_cons_self
    have b := tot_nonneg fun x hx => e x (List.mem_cons_of_mem y hx)
    rw [tot_cons] at z
    intro x hx
    rcases List.mem_cons.mp hx with rfl | hx
    · omega
    · exact ih (fun x hx => e x (List.mem_cons_of_mem y hx)) (by omega) x hx
/-- sums that agree but for one place -/
theorem tot_but {β : Type} [DecidableEq β] {l : List β} (nd : l.Nodup) {x : β} (hx : x ∈ l) {g h : β → Int} (e : ∀ y ∈ l, y ≠ x → g y = h y) : tot l g = tot l h + (g x - h x) := by
  induction l with
  | nil => cases hx
  | cons y l ih =>
    obtain ⟨n1, n2⟩ := List.nodup_cons.mp nd
    rw [tot_cons, tot_cons]
    rcases List.mem_cons.mp hx with q | q
    · subst q
      have : tot l g = tot l h := tot_congr fun z hz => e z (List.mem_cons_of_mem _ hz) fun w => n1 (w ▸ hz)
      omega
    · have a : g y = h y := e y List.mem_cons_self fun w => n1 (w ▸ q)
      have b := ih n2 q fun z hz => e z (List.mem_cons_of_mem _ hz)
      omega
/-- .. one that is at most the other but for one place -/
theorem tot_le_but {β : Type} [DecidableEq β] {l : List β} (nd : l.Nodup) {x : β} (hx : x ∈ l) {g h : β → Int} (e : ∀ y ∈ l, y ≠ x → g y ≤ h y) : tot l g ≤ tot l h + (g x - h x) := by
  have a := tot_but nd hx (g := g) (h := fun y => if y = x then h x else g y) (fun y _ ne => by rw [if_neg ne])
  have b : tot l (fun y => if y = x then h x else g y) ≤ tot l h := tot_le fun y hy => by
    by_cases q : y = x
    · rw [if_pos q, q]; exact Int.le_refl _
    · rw [if_neg q]; exact e y hy q
  simp only [if_true] at a
  omega
theorem tot_one {β : Type} [DecidableEq β] {l : List β} (nd : l.Nodup) {x : β} (hx : x ∈ l) (S : β → Bool) (v : Int) :
    tot l (fun k => if S k = true then (if x = k then v else 0) else 0) = if S x = true then v else 0 := by
  have a := tot_but nd hx (g := fun k => if S k = true then (if x = k then v else 0) else 0) (h := fun _ => 0) (fun y _ ne => by
    split
    · rw [if_neg (Ne.symm ne)]
    · rfl)
  rw [tot_zero] at a
  rw [a]
  simp
end

/-! ### plants: names of streams ns, their ends tl, hd; flows f -/
section
variable {α : Type} [DecidableEq α]
/-- what comes to a knot less what goes from it, by the streams of a list -/
def net (tl hd : α → α) (ns : List α) (f : α → Int) (k : α) : Int := tot ns fun n => (if hd n = k then f n else 0) - (if tl n = k then f n else 0)
def fset (f : α → Int) (n : α) (v : Int) : α → Int := fun m => if m = n then v else f m
theorem fset_same (f : α → Int) (n : α) (v : Int) : fset f n v n = v := by unfold fset; rw [if_pos rfl]
theorem fset_ne (f : α → Int) {n m : α} (v : Int) (h : m ≠ n) : fset f n v m = f m := by unfold fset; rw [if_neg h]
variable {tl hd : α → α} {ns ks : List α} {lo hi f g : α → Int}
theorem net_congr {f g : α → Int} (e : ∀ n ∈ ns, f n = g n) (k : α) : net tl hd ns f k = net tl hd ns g k := tot_congr fun n hn => by rw [e n hn]
theorem net_ends {tl' hd' : α → α} (e : ∀ n ∈ ns, tl n = tl' n ∧ hd n = hd' n) (f : α → Int) (k : α) : net tl hd ns f k = net tl' hd' ns f k := tot_congr fun n hn => by rw [(e n hn).1, (e n hn).2]
theorem net_fset (nd : ns.Nodup) {n : α} (hn : n ∈ ns) (v : Int) (k : α) :
    net tl hd ns (fset f n v) k = net tl hd ns f k + (if hd n = k then v - f n else 0) - (if tl n = k then v - f n else 0) := by
  unfold net
  rw [tot_but nd hn (g := fun m => (if hd m = k then fset f n v m else 0) - (if tl m = k then fset f n v m else 0)) (h := fun m => (if hd m = k then f m else 0) - (if tl m = k then f m else 0)) (fun m _ ne => by rw [fset_ne f v ne])]
  rw [fset_same]
  repeat' split
  all_goals omega
/-- both ends of a stream are one knot: its flow does not matter -/
theorem net_loop (nd : ns.Nodup) {n : α} (hn : n ∈ ns) (e : tl n = hd n) (v : Int) (k : α) : net tl hd ns (fset f n v) k = net tl hd ns f k := by
  rw [net_fset nd hn, e]; omega

/-- the part of a stream in what comes to a lot, less what leaves it -/
def part (tl hd : α → α) (S : α → Bool) (f : α → Int) (n : α) : Int := (if S (hd n) = true then f n else 0) - (if S (tl n) = true then f n else 0)
theorem lot_sum (kd : ks.Nodup) (ends : ∀ n ∈ ns, tl n ∈ ks ∧ hd n ∈ ks) (S : α → Bool) (f : α → Int) :
    tot ks (fun k => if S k = true then net tl hd ns f k else 0) = tot ns (part tl hd S f) := by
  induction ns with
  | nil =>
    rw [tot_nil]
    refine Eq.trans (tot_congr fun k _ => ?_) (tot_zero ks)
    show (if S k = true then (0 : Int) else 0) = 0
    split <;> rfl
  | cons n ns ih =>
    have ih := ih fun m hm => ends m (List.mem_cons_of_mem _ hm)
    obtain ⟨h1, h2⟩ := ends n List.mem_cons_self
    rw [tot_cons, ← ih]
    have a := tot_one kd h2 S (f n)
    have b := tot_one kd h1 S (f n)
    have c : tot ks (fun k => if S k = true then net tl hd (n :: ns) f k else 0)
        = tot ks (fun k => ((if S k = true then (if hd n = k then f n else 0) else 0) - (if S k = true then (if tl n = k then f n else 0) else 0)) + (if S k = true then net tl hd ns f k else 0)) := by
      refine tot_congr fun k _ => ?_
      unfold net
      rw [tot_cons]
      repeat' split
      all_goals omega
    rw [c, tot_add, tot_sub, a, b]
    rfl

def Bal (tl hd : α → α) (ns ks : List α) (f : α → Int) : Prop := ∀ k ∈ ks, net tl hd ns f k = 0
def Within (lo hi : α → Int) (ns : List α) (f : α → Int) : Prop := ∀ n ∈ ns, lo n ≤ f n ∧ f n ≤ hi n
/-- nothing more can be pushed out of the lot, along the streams of a list -/
def Shut (tl hd : α → α) (lo hi : α → Int) (ls : List α) (f : α → Int) (S : α → Bool) : Prop :=
  ∀ n ∈ ls, (S (tl n) = true → S (hd n) = false → hi n ≤ f n) ∧ (S (hd n) = true → S (tl n) = false → f n ≤ lo n)

theorem part_le {n : α} {S : α → Bool} (hs : (S (tl n) = true → S (hd n) = false → hi n ≤ f n) ∧ (S (hd n) = true → S (tl n) = false → f n ≤ lo n)) (hg : lo n ≤ g n ∧ g n ≤ hi n) : part tl hd S f n ≤ part tl hd S g n := by
  unfold part
  cases h1 : S (tl n) <;> cases h2 : S (hd n)
  · simp
  · have := hs.2 h2 h1; simp; omega
  · have := hs.1 h1 h2; simp; omega
  · simp
theorem bal_lot (kd : ks.Nodup) (ends : ∀ n ∈ ns, tl n ∈ ks ∧ hd n ∈ ks) (b : Bal tl hd ns ks g) (S : α → Bool) : tot ns (part tl hd S g) = 0 := by
  rw [← lot_sum kd ends S g]
  refine Eq.trans (tot_congr fun k hk => ?_) (tot_zero ks)
  rw [b k hk]; split <;> rfl
/-- all knots together miss nothing -/
theorem all_zero (kd : ks.Nodup) (ends : ∀ n ∈ ns, tl n ∈ ks ∧ hd n ∈ ks) (f : α → Int) : tot ks (net tl hd ns f) = 0 := by
  have a := lot_sum kd ends (fun _ => true) f
  have b : tot ns (part tl hd (fun _ => true) f) = 0 := by
    refine Eq.trans (tot_congr fun n _ => ?_) (tot_zero ns)
    unfold part; simp
  rw [b] at a
  rw [← a]
  exact tot_congr fun k _ => by rw [if_pos rfl]

/-- the end of the search for balanced flows: a lot that holds what has too much and nothing that has too little, and out of which nothing can be pushed -/
theorem cut_none (kd : ks.Nodup) (ends : ∀ n ∈ ns, tl n ∈ ks ∧ hd n ∈ ks) {S : α → Bool} (hs : Shut tl hd lo hi ns f S) (ho : ∀ k ∈ ks, 0 < net tl hd ns f k → S k = true) (hu : ∀ k ∈ ks, net tl hd ns f k < 0 → S k = false)
    (hg : Within lo hi ns g) (bg : Bal tl hd ns ks g) : Bal tl hd ns ks f := by
  have le : tot ns (part tl hd S f) ≤ tot ns (part tl hd S g) := tot_le fun n hn => part_le (hs n hn) (hg n hn)
  rw [bal_lot kd ends bg S, ← lot_sum kd ends S f] at le
  have z := tot_all_zero (fun k hk => by
    by_cases q : S k = true
    · rw [if_pos q]
      by_cases w : net tl hd ns f k < 0
      · rw [hu k hk w] at q; cases q
      · omega
    · rw [if_neg q]; exact Int.le_refl _) le
  have nn : ∀ k ∈ ks, net tl hd ns f k ≤ 0 := fun k hk => by
    by_cases w : 0 < net tl hd ns f k
    · have q := z k hk
      rw [if_pos (ho k hk w)] at q
      omega
    · omega
  have t := all_zero (ns := ns) (tl := tl) (hd := hd) kd ends f
  have n2 : ∀ k ∈ ks, 0 - net tl hd ns f k = 0 := tot_all_zero (fun k hk => by have := nn k hk; omega) (by rw [tot_sub ks (fun _ => 0) (net tl hd ns f), tot_zero, t]; omega)
  intro k hk
  have := n2 k hk
  omega

/-- no balanced flows have more of a stream that leaves a shut lot of the others -/
theorem cut_low (nd : ns.Nodup) (kd : ks.Nodup) (ends : ∀ n ∈ ns, tl n ∈ ks ∧ hd n ∈ ks) {e : α} (he : e ∈ ns) {S : α → Bool} (hs : Shut tl hd lo hi (ns.filter fun n => decide (n ≠ e)) f S) (bf : Bal tl hd ns ks f)
    (hg : Within lo hi ns g) (bg : Bal tl hd ns ks g) (h1 : S (tl e) = true) (h2 : S (hd e) = false) : f e ≤ g e := by
  have a := bal_lot kd ends bf S
  have b := bal_lot kd ends bg S
  have le := tot_le_but nd he (g := part tl hd S f) (h := part tl hd S g) fun n hn ne => part_le (hs n (List.mem_filter.mpr ⟨hn, decide_eq_true ne⟩)) (hg n hn)
  unfold part at a b le
  rw [a, b] at le
  rw [h1, h2] at le
  simp only [if_true, Bool.false_eq_true, if_false] at le
  omega
theorem cut_high (nd : ns.Nodup) (kd : ks.Nodup) (ends : ∀ n ∈ ns, tl n ∈ ks ∧ hd n ∈ ks) {e : α} (he : e ∈ ns) {S : α → Bool} (hs : Shut tl hd lo hi (ns.filter fun n => decide (n ≠ e)) f S) (bf : Bal tl hd ns ks f)
    (hg : Within lo hi ns g) (bg : Bal tl hd ns ks g) (h1 : S (hd e) = true) (h2 : S (tl e) = false) : g e ≤ f e := by
  have a := bal_lot kd ends bf S
  have b := bal_lot kd ends bg S
  have le := tot_le_but nd he (g := part tl hd S f) (h := part tl hd S g) fun n hn ne => part_le (hs n (List.mem_filter.mpr ⟨hn, decide_eq_true ne⟩)) (hg n hn)
  unfold part at a b le
  rw [a, b] at le
  rw [h1, h2] at le
  simp only [if_true, Bool.false_eq_true, if_false] at le
  omega

/-! ### arcs and paths -/
structure Arc (α : Type) where
  src : α
  dst : α
  nm : α
  sg : Int
  room : Int
/-- what can still be pushed along a stream, and back -/
def arcsAt (tl hd : α → α) (lo hi f : α → Int) (n : α) : List (Arc α) :=
  (if f n < hi n then [⟨tl n, hd n, n, 1, hi n - f n⟩] else []) ++ (if f n > lo n then [⟨hd n, tl n, n, -1, f n - lo n⟩] else [])
def arcsOf (tl hd : α → α) (lo hi f : α → Int) (ls : List α) : List (Arc α) := ls.flatMap (arcsAt tl hd lo hi f)
/-- an arc of the list, told -/
structure IsArc (tl hd : α → α) (lo hi f : α → Int) (ls : List α) (a : Arc α) : Prop where
  mem : a.nm ∈ ls
  pos : 1 ≤ a.room
  way : (a.sg = 1 ∧ a.src = tl a.nm ∧ a.dst = hd a.nm ∧ a.room = hi a.nm - f a.nm) ∨ (a.sg = -1 ∧ a.src = hd a.nm ∧ a.dst = tl a.nm ∧ a.room = f a.nm - lo a.nm)
theorem isArc_of {ls : List α} {a : Arc α} (h : a ∈ arcsOf tl hd lo hi f ls) : IsArc tl hd lo hi f ls a := by
  obtain ⟨n, hn, ha⟩ := List.mem_flatMap.mp h
  unfold arcsAt at ha
  rcases List.mem_append.mp ha with q | q
  · split at q
    · rw [List.mem_singleton.mp q]
      exact ⟨hn, by show 1 ≤ hi n - f n; omega, .inl ⟨rfl, rfl, rfl, rfl⟩⟩
    · cases q
  · split at q
    · rw [List.mem_singleton.mp q]
      exact ⟨hn, by show 1 ≤ f n - lo n; omega, .inr ⟨rfl, rfl, rfl, rfl⟩⟩
    · cases q
/-- a lot that is closed under the arcs is shut -/
theorem shut_of {ls : List α} {S : α → Bool} (h : ∀ a ∈ arcsOf tl hd lo hi f ls, S a.src = true → S a.dst = true) : Shut tl hd lo hi ls f S := fun n hn => by
  refine ⟨fun h1 h2 => ?_, fun h1 h2 => ?_⟩
  · by_cases q : f n < hi n
    · have := h ⟨tl n, hd n, n, 1, hi n - f n⟩ (List.mem_flatMap.mpr ⟨n, hn, by unfold arcsAt; rw [if_pos q]; exact List.mem_append_left _ (List.mem_singleton.mpr rfl)⟩) h1
      rw [h2] at this; cases this
    · omega
  · by_cases q : f n > lo n
    · have := h ⟨hd n, tl n, n, -1, f n - lo n⟩ (List.mem_flatMap.mpr ⟨n, hn, by unfold arcsAt; rw [if_pos q]; exact List.mem_append_right _ (List.mem_singleton.mpr rfl)⟩) h1
      rw [h2] at this; cases this
    · omega

def IsPath (P : Arc α → Prop) : α → List (Arc α) → α → Prop
  | s, [], e => s = e
  | s, a :: w, e => a.src = s ∧ P a ∧ IsPath P a.dst w e
theorem IsPath.all {P : Arc α → Prop} : ∀ {w : List (Arc α)} {s e : α}, IsPath P s w e → ∀ a ∈ w, P a
  | [], _, _, _, a, h => by cases h
  | b :: w, _, _, ⟨_, p, r⟩, a, h => by
    rcases List.mem_cons.mp h with q | q
    · rw [q]; exact p
    · exact IsPath.all r a q
theorem IsPath.imp {P Q : Arc α → Prop} (k : ∀ a, P a → Q a) : ∀ {w : List (Arc α)} {s e : α}, IsPath P s w e → IsPath Q s w e
  | [], _, _, h => h
  | b :: w, _, _, ⟨c, p, r⟩ => ⟨c, k _ p, IsPath.imp k r⟩
theorem IsPath.snoc {P : Arc α → Prop} : ∀ {w : List (Arc α)} {s e : α} {a : Arc α}, IsPath P s w e → a.src = e → P a → IsPath P s (w ++ [a]) a.dst
  | [], _, _, _, h, c, p => ⟨c.trans h.symm, p, rfl⟩
  | b :: w, _, _, _, ⟨c', p', r⟩, c, p => ⟨c', p', IsPath.snoc r c p⟩
theorem IsPath.cut {P : Arc α → Prop} : ∀ {w : List (Arc α)} {s e v : α}, IsPath P s w e → v ∈ s :: w.map (·.dst) → ∃ w1 w2, w = w1 ++ w2 ∧ IsPath P s w1 v
  | [], s, e, v, _, hv => by
    have : v = s := by simpa using hv
    exact ⟨[], [], rfl, this.symm⟩
  | b :: w, s, e, v, ⟨c, p, r⟩, hv => by
    rcases List.mem_cons.mp hv with q | q
    · exact ⟨[], b :: w, rfl, q.symm⟩
    · obtain ⟨w1, w2, e1, r1⟩ := IsPath.cut (v := v) r (by rw [List.map_cons] at q; exact q)
      exact ⟨b :: w1, w2, by rw [e1]; rfl, c, p, r1⟩
/-- a path whose places are all different -/
def Simple (s : α) (w : List (Arc α)) : Prop := (s :: w.map (·.dst)).Nodup
theorem Simple.take {s : α} {w w1 w2 : List (Arc α)} (h : Simple s w) (e : w = w1 ++ w2) : Simple s w1 := by
  subst e
  unfold Simple at h ⊢
  rw [List.map_append, ← List.cons_append] at h
  exact (List.nodup_append.mp h).1
theorem Simple.snoc {s : α} {w : List (Arc α)} {a : Arc α} (h : Simple s w) (n : a.dst ∉ s :: w.map (·.dst)) : Simple s (w ++ [a]) := by
  unfold Simple at h ⊢
  rw [List.map_append, ← List.cons_append]
  refine List.nodup_append.mpr ⟨h, by simp, fun x hx y hy e => ?_⟩
  have : y = a.dst := by simpa using hy
  rw [e, this] at hx
  exact n hx
/-- whatever can be reached can be reached by a simple path -/
theorem simple_of {P : Arc α → Prop} {s : α} {a : Arc α} {w : List (Arc α)} (p : IsPath P s w a.src) (q : Simple s w) (ha : P a) : ∃ w', IsPath P s w' a.dst ∧ Simple s w' := by
  by_cases h : a.dst ∈ s :: w.map (·.dst)
  · obtain ⟨w1, w2, e, r⟩ := p.cut h
    exact ⟨w1, r, q.take e⟩
  · exact ⟨w ++ [a], p.snoc rfl ha, q.snoc h⟩

/-- in a simple path no stream is passed twice -/
theorem names_nodup {ls : List α} : ∀ {w : List (Arc α)} {s e : α}, IsPath (IsArc tl hd lo hi f ls) s w e → Simple s w → (w.map (·.nm)).Nodup
  | [], _, _, _, _ => List.nodup_nil
  | a :: w, s, e, ⟨c, p, r⟩, q => by
    unfold Simple at q
    rw [List.map_cons] at q
    obtain ⟨q1, q2⟩ := List.nodup_cons.mp q
    rw [List.map_cons]
    refine List.nodup_cons.mpr ⟨fun hm => ?_, names_nodup r q2⟩
    obtain ⟨b, hb, eb⟩ := List.mem_map.mp hm
    have hbd : b.dst ∈ w.map (·.dst) := List.mem_map.mpr ⟨b, hb, rfl⟩
    have n1 : b.dst ≠ a.src := fun z => q1 (by rw [← c, ← z]; exact List.mem_cons_of_mem _ hbd)
    have n2 : b.dst ≠ a.dst := fun z => (List.nodup_cons.mp q2).1 (by rw [← z]; exact hbd)
    have pb := (r.all b hb).way
    have pa := p.way
    rw [eb] at pb
    rcases pa with ⟨_, s1, d1, _⟩ | ⟨_, s1, d1, _⟩ <;> rcases pb with ⟨_, s2, d2, _⟩ | ⟨_, s2, d2, _⟩
    · exact n2 (d2.trans d1.symm)
    · exact n1 (d2.trans s1.symm)
    · exact n1 (d2.trans s1.symm)
    · exact n2 (d2.trans d1.symm)

/-- pushing m along a way -/
def pushF (f : α → Int) : List (Arc α) → Int → α → Int
  | [], _ => f
  | a :: w, m => pushF (fset f a.nm (f a.nm + a.sg * m)) w m
theorem pushF_other : ∀ (w : List (Arc α)) (f : α → Int) (m : Int) {n : α}, n ∉ w.map (·.nm) → pushF f w m n = f n
  | [], f, m, n, _ => rfl
  | a :: w, f, m, n, h => by
    rw [List.map_cons] at h
    show pushF (fset f a.nm (f a.nm + a.sg * m)) w m n = f n
    rw [pushF_other w _ m fun z => h (List.mem_cons_of_mem _ z), fset_ne f _ fun z => h (by rw [z]; exact List.mem_cons_self)]
theorem pushF_at : ∀ (w : List (Arc α)) (f : α → Int) (m : Int) {a : Arc α}, (w.map (·.nm)).Nodup → a ∈ w → pushF f w m a.nm = f a.nm + a.sg * m
  | [], f, m, a, _, h => by cases h
  | b :: w, f, m, a, nd, h => by
    rw [List.map_cons] at nd
    obtain ⟨n1, n2⟩ := List.nodup_cons.mp nd
    show pushF (fset f b.nm (f b.nm + b.sg * m)) w m a.nm = f a.nm + a.sg * m
    rcases List.mem_cons.mp h with q | q
    · subst q
      rw [pushF_other w _ m n1, fset_same]
    · have ne : a.nm ≠ b.nm := fun z => n1 (by rw [← z]; exact List.mem_map.mpr ⟨a, q, rfl⟩)
      rw [pushF_at w _ m n2 q, fset_ne f _ ne]
theorem pushF_append : ∀ (w v : List (Arc α)) (f : α → Int) (m : Int), pushF f (w ++ v) m = pushF (pushF f w m) v m
  | [], _, _, _ => rfl
  | a :: w, v, f, m => pushF_append w v _ m
def Ends (tl hd : α → α) (ns : List α) (a : Arc α) : Prop := a.nm ∈ ns ∧ ((a.sg = 1 ∧ a.src = tl a.nm ∧ a.dst = hd a.nm) ∨ (a.sg = -1 ∧ a.src = hd a.nm ∧ a.dst = tl a.nm))
theorem net_push (nd : ns.Nodup) (m : Int) (k : α) : ∀ {w : List (Arc α)} {s e : α} (f : α → Int), IsPath (Ends tl hd ns) s w e →
    net tl hd ns (pushF f w m) k = net tl hd ns f k - (if s = k then m else 0) + (if e = k then m else 0)
  | [], s, e, f, h => by
    have : s = e := h
    subst this
    show net tl hd ns f k = _
    omega
  | a :: w, s, e, f, ⟨c, ⟨hn, p⟩, r⟩ => by
    show net tl hd ns (pushF (fset f a.nm (f a.nm + a.sg * m)) w m) k = _
    rw [net_push nd m k _ r, net_fset nd hn, ← c]
    rcases p with ⟨e1, e2, e3⟩ | ⟨e1, e2, e3⟩
    · rw [e1, e2, e3]
      repeat' split
      all_goals omega
    · rw [e1, e2, e3]
      repeat' split
      all_goals omega
theorem IsArc.ends {ls : List α} {a : Arc α} (h : IsArc tl hd lo hi f ls a) (sub : ∀ n ∈ ls, n ∈ ns) : Ends tl hd ns a :=
  ⟨sub _ h.mem, h.way.imp (fun z => ⟨z.1, z.2.1, z.2.2.1⟩) fun z => ⟨z.1, z.2.1, z.2.2.1⟩⟩
theorem within_push {ls : List α} {m : Int} (m0 : 0 ≤ m) {w : List (Arc α)} {s e : α} (p : IsPath (IsArc tl hd lo hi f ls) s w e) (q : Simple s w) (hm : ∀ a ∈ w, m ≤ a.room) {n : α} (hf : lo n ≤ f n ∧ f n ≤ hi n) :
    lo n ≤ pushF f w m n ∧ pushF f w m n ≤ hi n := by
  by_cases h : n ∈ w.map (·.nm)
  · obtain ⟨a, ha, e1⟩ := List.mem_map.mp h
    subst e1
    rw [pushF_at w f m (names_nodup p q) ha]
    have r := hm a ha
    rcases (p.all a ha).way with ⟨s1, _, _, e2⟩ | ⟨s1, _, _, e2⟩
    · rw [s1]; omega
    · rw [s1]; omega
  · rw [pushF_other w f m h]; exact hf

/-- between two balanced flows within limits each number of a stream is met -/
theorem step_up (nd : ns.Nodup) (kd : ks.Nodup) (ends : ∀ n ∈ ns, tl n ∈ ks ∧ hd n ∈ ks) {e : α} (he : e ∈ ns) (wf : Within lo hi ns f) (bf : Bal tl hd ns ks f) (wg : Within lo hi ns g) (bg : Bal tl hd ns ks g) (h : f e < g e) :
    ∃ f', Within lo hi ns f' ∧ Bal tl hd ns ks f' ∧ f' e = f e + 1 := by
  let ls := ns.filter fun n => decide (n ≠ e)
  have sub : ∀ n ∈ ls, n ∈ ns := fun n hn => (List.mem_filter.mp hn).1
  have note : e ∉ ls := fun z => (of_decide_eq_true (List.mem_filter.mp z).2) rfl
  let P := IsArc tl hd lo hi f ls
  by_cases q : ∃ w, IsPath P (hd e) w (tl e) ∧ Simple (hd e) w
  · obtain ⟨w, p, sm⟩ := q
    have hne : e ∉ w.map (·.nm) := fun z => by
      obtain ⟨a, ha, e1⟩ := List.mem_map.mp z
      exact note (e1 ▸ (p.all a ha).mem)
    have ee : pushF f w 1 e = f e := pushF_other w f 1 hne
    refine ⟨fset (pushF f w 1) e (f e + 1), fun n hn => ?_, fun k hk => ?_, fset_same _ _ _⟩
    · by_cases c : n = e
      · subst c
        rw [fset_same]
        have := wf n hn
        have := wg n hn
        omega
      · rw [fset_ne _ _ c]
        exact within_push (by omega) p sm (fun a ha => (p.all a ha).pos) (wf n hn)
    · rw [net_fset nd he, net_push nd 1 k f (p.imp fun a ha => ha.ends sub), bf k hk, ee]
      repeat' split
      all_goals omega
  · exfalso
    have hS : ∃ S : α → Bool, ∀ k, S k = true ↔ ∃ w, IsPath P (hd e) w k ∧ Simple (hd e) w :=
      ⟨fun k => @decide (∃ w, IsPath P (hd e) w k ∧ Simple (hd e) w) (Classical.propDecidable _), fun k => @decide_eq_true_iff _ (Classical.propDecidable _)⟩
    obtain ⟨S, hS⟩ := hS
    have h1 : S (hd e) = true := (hS _).2 ⟨[], rfl, by unfold Simple; simp⟩
    have h2 : S (tl e) = false := by
      cases z : S (tl e) with
      | false => rfl
      | true => exact absurd ((hS _).1 z) q
    have sh : Shut tl hd lo hi ls f S := shut_of fun a ha hs => by
      obtain ⟨w, p, sm⟩ := (hS _).1 hs
      exact (hS _).2 (simple_of p sm (isArc_of ha))
    have := cut_high nd kd ends he sh bf wg bg h1 h2
    omega
theorem between (nd : ns.Nodup) (kd : ks.Nodup) (ends : ∀ n ∈ ns, tl n ∈ ks ∧ hd n ∈ ks) {e : α} (he : e ∈ ns) (wg : Within lo hi ns g) (bg : Bal tl hd ns ks g) :
    ∀ (d : Nat) (f : α → Int), Within lo hi ns f → Bal tl hd ns ks f → f e + d ≤ g e → ∃ f', Within lo hi ns f' ∧ Bal tl hd ns ks f' ∧ f' e = f e + d
  | 0, f, wf, bf, _ => ⟨f, wf, bf, by simp⟩
  | d + 1, f, wf, bf, h => by
    obtain ⟨f1, w1, b1, e1⟩ := step_up nd kd ends he wf bf wg bg (by omega)
    obtain ⟨f2, w2, b2, e2⟩ := between nd kd ends he wg bg d f1 w1 b1 (by omega)
    exact ⟨f2, w2, b2, by rw [e2, e1]; omega⟩

/-! ### what is missing -/
def miss (tl hd : α → α) (ns ks : List α) (f : α → Int) : Int := tot ks fun k => if 0 < -(net tl hd ns f k) then -(net tl hd ns f k) else 0
theorem miss_nonneg : 0 ≤ miss tl hd ns ks f := tot_nonneg fun k _ => by split <;> omega
theorem miss_zero_of_bal (b : Bal tl hd ns ks f) : miss tl hd ns ks f = 0 := by
  refine Eq.trans (tot_congr fun k hk => ?_) (tot_zero ks)
  rw [b k hk]; rfl
theorem bal_of_miss (kd : ks.Nodup) (ends : ∀ n ∈ ns, tl n ∈ ks ∧ hd n ∈ ks) (h : miss tl hd ns ks f ≤ 0) : Bal tl hd ns ks f := by
  have a := tot_all_zero (fun k _ => by split <;> omega) h
  have b : ∀ k ∈ ks, 0 ≤ net tl hd ns f k := fun k hk => by
    have c := a k hk
    split at c <;> omega
  exact tot_all_zero b (by rw [all_zero kd ends f]; exact Int.le_refl _)
/-- a push from a knot that has too much to one that has too little -/
theorem miss_push {f' : α → Int} {s e : α} {m : Int} (kd : ks.Nodup) (hs : s ∈ ks) (he : e ∈ ks) (m1 : 1 ≤ m) (ms : m ≤ net tl hd ns f s) (me : m ≤ -(net tl hd ns f e))
    (h : ∀ k, net tl hd ns f' k = net tl hd ns f k - (if s = k then m else 0) + (if e = k then m else 0)) : miss tl hd ns ks f' < miss tl hd ns ks f := by
  have ne : s ≠ e := fun z => by subst z; omega
  have a := tot_le_but kd he (g := fun k => if 0 < -(net tl hd ns f' k) then -(net tl hd ns f' k) else 0) (h := fun k => if 0 < -(net tl hd ns f k) then -(net tl hd ns f k) else 0) (fun k hk c => by
    have q := h k
    rw [if_neg (Ne.symm c)] at q
    by_cases d : s = k
    · subst d
      rw [if_pos rfl] at q
      rw [if_neg (by omega), if_neg (by omega)]
      exact Int.le_refl _
    · rw [if_neg d] at q
      rw [show net tl hd ns f' k = net tl hd ns f k by omega]
      exact Int.le_refl _)
  have q := h e
  rw [if_neg ne, if_pos rfl] at q
  have c : ((if 0 < -(net tl hd ns f' e) then -(net tl hd ns f' e) else 0) - (if 0 < -(net tl hd ns f e) then -(net tl hd ns f e) else 0) : Int) < 0 := by
    rw [if_pos (show 0 < -(net tl hd ns f e) by omega)]
    split <;> omega
  unfold miss
  omega
end
end Ms
set_option Elab.async false
set_option linter.all false
set_option maxRecDepth 100000
/-! The text by places, and how a def of it is found behind the top. -/
namespace Ms
open PySem PySem.Spec PyProof.Rows L2
def topS (i : Nat) : Stmt := PySem.Challenge.pw_metersure_k31_whole_ranges_of_small_plan.main.body.getD i (.Pass ⟨0, 0, 0, 0⟩)

/-- a def of the module: where it stands, told -/
structure DefIn (K : PySem.W.Frag) (mg : Str → Option Value) (x : Str) (st : Stmt) (f : Addr) (fd : FuncData) : Prop where
  fn : Fun K x x st f fd
  at_ : mg x = some (.ref f)
theorem def_in {K : PySem.W.Frag} {h : Heap} {mg : Str → Option Value} {x : Str} {st : Stmt} {f : Addr} {od an : Option Addr} {sl : Array (Option Value)} {oc kV dc pm cd ct : Value} (X : K.In h) (G : h.Ns mainGlobals mg)
    (a : PySem.W.nsIn K mainGlobals x = some (some (.ref f))) (l : K.lookup f = some ⟨oc, od, .func (PySem.W.fnOf x x (defArgs st) (defBody st) (defScope st) .none kV dc pm an cd ct), sl⟩) (c : PySem.W.codeIn K cd x = true) (k : PySem.W.keepIn K (.ref f) = true) :
    DefIn K mg x st f (PySem.W.fnOf x x (defArgs st) (defBody st) (defScope st) .none kV dc pm an cd ct) := ⟨fun_mk (st := st) l c k, PySem.W.mg_of X G a⟩
/-- a method of a class, told -/
structure MethIn (K : PySem.W.Frag) (C : Addr) (m qual : Str) (st : Stmt) (f : Addr) (fd : FuncData) : Prop where
  fn : Fun K m qual st f fd
  at_ : PySem.W.findIn K (.ref C) m = some (some (.ref f))
  is_ : PySem.W.isFn K (.ref f) = true
theorem meth_in {K : PySem.W.Frag} {C : Addr} {m qual : Str} {st : Stmt} {f : Addr} {od an : Option Addr} {sl : Array (Option Value)} {oc kV dc pm cd ct : Value}
    (a : PySem.W.findIn K (.ref C) m = some (some (.ref f))) (i : PySem.W.isFn K (.ref f) = true) (l : K.lookup f = some ⟨oc, od, .func (PySem.W.fnOf m qual (defArgs st) (defBody st) (defScope st) .none kV dc pm an cd ct), sl⟩) (c : PySem.W.codeIn K cd qual = true) (k : PySem.W.keepIn K (.ref f) = true) :
    MethIn K C m qual st f (PySem.W.fnOf m qual (defArgs st) (defBody st) (defScope st) .none kV dc pm an cd ct) := ⟨fun_mk (st := st) l c k, a, i⟩
end Ms
set_option Elab.async false
set_option linter.all false
set_option maxRecDepth 100000
set_option maxHeartbeats 4000000
/-! Rules of our own: a chain of three comparisons; set(list of ints), set(list of texts), their sorted and len; sorted of a list of tuples whose first part is a text. -/
namespace Ms
open PySem PySem.Spec PyProof.Rows L2

/-! ### a op1 b op2 c op3 d -/
section
variable {X : Cx} {a b c d : Expr} {pos : Pos} {ta tb tc td : TE}
def tChain3 (r1 r2 r3 : R2) (ta tb tc td : TE) : TE := fun σ H Q => ta σ H fun x H1 => tb σ H1 fun y H2 => r1 x y H2 fun z H3 => ∃ k, z = .bl k ∧
  (if k = true then tc σ H3 fun u H4 => r2 y u H4 fun z' H5 => ∃ k', z' = .bl k' ∧ (if k' = true then td σ H5 fun v H6 => r3 u v H6 Q else Q (.bl false) H5) else Q (.bl false) H3)
theorem pe_chain3 {o1 o2 o3 : CmpOp} {r1 r2 r3 : R2} (h1 : OpR X (compareOp o1) r1) (h2 : OpR X (compareOp o2) r2) (h3 : OpR X (compareOp o3) r3) (ha : PE X a ta) (hb : PE X b tb) (hc : PE X c tc) (hd : PE X d td)
    (hm : lastMarks [o1, o2, o3] [b, c, d] = false := by with_unfolding_all rfl) : PE X (.Compare a [o1, o2, o3] [b, c, d] pos) (tChain3 r1 r2 r3 ta tb tc td) := by
  refine ⟨fun pins s σ H Q I h => ?_⟩
  refine Compare_chain (thn (ha.run pins s σ H _ I h) fun ua sa ⟨x, Ha, Ia, rx, qa⟩ => chain_link (thn (hb.run pins sa σ Ha _ Ia qa) fun ub sb ⟨y, Hb, Ib, ry, qb⟩ =>
    thn (h1 pins sb σ Hb x y ua ub _ Ib rx ry qb) fun uz sz ⟨z, Hz, Iz, rz, k, ek, qk⟩ => ?_)) hm
  subst ek
  cases rz
  refine wpAny_truthy_bool ?_
  cases k with
  | false => exact ite_ff ⟨.bl false, Hz, Iz, rfl, qk⟩
  | true =>
    refine ite_tt (chain_link (thn (hc.run pins sz σ Hz _ Iz qk) fun uc sc ⟨u, Hc, Ic, ru, qc⟩ => thn (h2 pins sc σ Hc y u ub uc _ Ic ry ru qc) fun uw sw ⟨z', Hw, Iw, rw', k', ek', qk'⟩ => ?_))
    subst ek'
    cases rw'
    refine wpAny_truthy_bool ?_
    cases k' with
    | false => exact ite_ff ⟨.bl false, Hw, Iw, rfl, qk'⟩
    | true => exact ite_tt (chain_last (thn (hd.run pins sw σ Hw _ Iw qk') fun ud sd ⟨v, Hd, Id, rv, qd⟩ => h3 pins sd σ Hd u v uc ud Q Id ru rv qd))
end

/-! ### sets of values of one kind, with what a walk over them needs -/
section
variable {P : Program} {w : World} {κ : Type} [DecidableEq κ]
/-- the set at a has just the keys M, n of them -/
def Held (knd : PySem.KeyKind P w κ) (kf : Value → κ) (h : Heap) (a : Addr) (M : κ → Prop) (n : Nat) : Prop :=
  ∃ o es ep t, h.get? a = some o ∧ o.ExactSet ∧ o.data = .set es ep t ∧ ElemsOf knd es.toList ∧ (es.toList.map fun e => kf e.2).Nodup ∧ (∀ k, M k ↔ k ∈ es.toList.map fun e => kf e.2) ∧
    es.size < scanBound ∧ t.fits es.size = true ∧ es.size = n ∧ Ris t.place.toList ∧ (w.params.followText "set-order" = true ∨ t.led = true)
variable {knd : PySem.KeyKind P w κ} {kf : Value → κ} {h h' : Heap} {a : Addr} {M N : κ → Prop} {n : Nat}
theorem Held.carry (r : Held knd kf h a M n) (k : ∀ o, h.get? a = some o → h'.get? a = some o) : Held knd kf h' a M n := by
  obtain ⟨o, es, ep, t, ho, more⟩ := r
  exact ⟨o, es, ep, t, k o ho, more⟩
theorem Held.alike (r : Held knd kf h a M n) (e : ∀ k, N k ↔ M k) : Held knd kf h a N n := by
  obtain ⟨o, es, ep, t, h1, h2, h3, h4, h5, h6, more⟩ := r
  exact ⟨o, es, ep, t, h1, h2, h3, h4, h5, fun k => (e k).trans (h6 k), more⟩
/-- no more keys than a list that has them all -/
theorem Held.few (r : Held knd kf h a M n) {l : List κ} (c : ∀ k, M k → k ∈ l) : n ≤ l.length := by
  obtain ⟨o, es, ep, t, _, _, _, _, nd, hm, _, _, hn, _⟩ := r
  have q := List.Nodup.length_le_of_subset nd fun k hk => c k ((hm k).mpr hk)
  rw [List.length_map, Array.length_toList, hn] at q
  exact q
theorem Held.all (r : Held knd kf h a M n) {l : List κ} (nd' : l.Nodup) (c : ∀ k, k ∈ l → M k) : l.length ≤ n := by
  obtain ⟨o, es, ep, t, _, _, _, _, nd, hm, _, _, hn, _⟩ := r
  have q := List.Nodup.length_le_of_subset nd' fun k hk => (hm k).mp (c k hk)
  have e : es.toList.length = n := by rw [Array.length_toList, hn]
  rw [List.length_map, e] at q
  exact q
theorem Held.fresh (ho : h.get? a = some { cls := .type "set", dict := none, data := .set #[] 0 (.fresh 0 0 (!w.params.followText "set-order")) }) : Held knd kf h a (fun _ => False) 0 := by
  refine ⟨_, #[], 0, _, ho, ⟨rfl, rfl, rfl⟩, rfl, ?_, List.nodup_nil, fun k => ⟨False.elim, fun z => nomatch z⟩, by decide, by rfl, rfl, List.Pairwise.nil, ?_⟩
  · intro e he
    cases he
  · show _ ∨ (!w.params.followText "set-order") = true
    cases q : w.params.followText "set-order"
    · exact .inr rfl
    · exact .inl rfl

section
variable {A : Around} {E : Value → Shared → Prop} {s : Shared}
/-- the table's store behind an add -/
theorem held_store {g : Bool → Sem Unit} (hg : ∀ (b : Bool) (z : Shared) (Q' : Unit → Shared → Prop), Q' () z → wpAny (model P w) A (g b) Q' E z) {o : Obj} {es fs : Array (Int × Value)} {ep : Nat} {t u : SetTable}
    (ho : s.heap.get? a = some o) (hx : o.ExactSet) (hd : o.data = .set es ep t) (g1 : ElemsOf knd fs.toList) (g2 : (fs.toList.map fun e => kf e.2).Nodup) (g3 : ∀ k, M k ↔ k ∈ fs.toList.map fun e => kf e.2)
    (g4 : fs.size < scanBound) (g5 : u.fits fs.size = true) (g6 : Ris u.place.toList) (g7 : w.params.followText "set-order" = true ∨ u.led = true) {dm : Bool} {R : Option Bool → Shared → Prop}
    (hR : ∀ h', Heap.SameBut a s.heap h' → Held knd kf h' a M fs.size → R (some true) { s with heap := h' }) :
    wpAny (model P w) A (do
      storeSet a fs u
      if (!dm && u.tooFull) = true then do
        g (relayAll u fs (SetTable.grown fs.size)).2.2
        storeSet a (relayAll u fs (SetTable.grown fs.size)).1 (relayAll u fs (SetTable.grown fs.size)).2.1
        pure (some true)
      else pure (some true)) R E s := by
  have put : ∀ {h0 : Heap} {o0 : Obj} {e0 e1 : Array (Int × Value)} {n0 : Nat} {t0 t1 : SetTable}, h0.get? a = some o0 → o0.data = .set e0 n0 t0 → (h0.update a (Obj.putSet e1 t1)).get? a = some { o0 with data := .set e1 (n0 + 1) t1 } := fun {h0 o0 e0 e1 n0 t0 t1} q1 q2 => by
    have z := Heap.get?_update_self (Obj.putSet e1 t1) q1 (by rw [putSet_of e1 t1 q2]; rfl)
    rwa [putSet_of e1 t1 q2] at z
  refine wpAny_bind (wpAny_storeSet_of ho hd ?_ (fits_of_scanBound g4))
  have ho1 := put (e1 := fs) (t1 := u) ho hd
  by_cases c : (!dm && u.tooFull) = true
  · rw [if_pos c]
    have f1 := relayAll_perm u fs (SetTable.grown fs.size)
    have f2 := relayAll_fits u fs (SetTable.grown fs.size)
    have f3 := relayAll_ris u fs (SetTable.grown fs.size)
    have f4 := relayAll_led u fs (SetTable.grown fs.size)
    generalize relayAll u fs (SetTable.grown fs.size) = z at f1 f2 f3 f4 ⊢
    obtain ⟨ls, v, gv⟩ := z
    dsimp only at f1 f2 f3 f4 ⊢
    have sz : ls.size = fs.size := by
      have q := f1.length_eq
      rwa [Array.length_toList, Array.length_toList] at q
    have kp := f1.map fun e : Int × Value => kf e.2
    refine wpAny_bind (hg _ _ _ (wpAny_bind (wpAny_storeSet_of ho1 rfl (wpAny_pure (hR _ ((Heap.SameBut.update s.heap a _).trans (Heap.SameBut.update _ a _)) ?_)) (fits_of_scanBound (by rw [sz]; exact g4)))))
    exact ⟨_, ls, _, v, put ho1 rfl, hx, rfl, g1.perm f1, kp.nodup_iff.mpr g2, fun k => (g3 k).trans kp.mem_iff.symm, by rw [sz]; exact g4, f2, sz, f3, g7.imp id fun q => by rw [f4]; exact q⟩
  · rw [if_neg c]
    exact wpAny_pure (hR _ (Heap.SameBut.update s.heap a _) ⟨_, fs, _, u, ho1, hx, rfl, g1, g2, g3, g4, g5, rfl, g6, g7⟩)

/-- one more key -/
theorem held_add (kb : ∀ k v, knd.is k v = true → kf v = k) {k : κ} {v : Value} (hk : knd.is k v = true) (hv : v.scannable = true) {Q : Bool → Shared → Prop} (r : Held knd kf s.heap a M n) (room : n + 1 < scanBound)
    (hQ : ∀ (h' : Heap) (m : Nat) (b : Bool), Heap.SameBut a s.heap h' → m ≤ n + 1 → Held knd kf h' a (fun j => M j ∨ j = k) m → Q b { s with heap := h' }) : wpAny (model P w) A (setAddHashed a v (knd.hash k)) Q E s := by
  obtain ⟨o, es, ep, t, ho, hx, hd, hel, nd, hm, hb, hf, hn, hr, hl⟩ := r
  have isk : ∀ e ∈ es.toList, (knd.is k e.2 = true ↔ kf e.2 = k) := fun e he => by
    obtain ⟨⟨k', hk', _⟩, _⟩ := hel e he
    refine ⟨fun z => kb k _ z, fun z => ?_⟩
    rw [← z, kb k' _ hk']
    exact hk'
  unfold setAddHashed setAddHashedIn
  refine wpAny_holding (wpAny_bind (wpAny_setState_of ho hd hf ?_))
  dsimp only
  rw [byScan_of hv hb hel]
  simp only [↓reduceIte]
  unfold setAddByScan
  refine wpAny_bind (wpAny_bind (wpAny_rule (wpAny_bind (wpAny_setScan_of hk ho hd hf hel ?_))))
  cases hfi : List.findIdx? (fun e => knd.is k e.2) es.toList with
  | some j =>
    dsimp only
    obtain ⟨hj, pj, _⟩ := List.findIdx?_eq_some_iff_getElem.mp hfi
    have old : M k := (hm k).mpr (List.mem_map.mpr ⟨_, List.getElem_mem hj, (isk _ (List.getElem_mem hj)).mp pj⟩)
    exact wpAny_pure (wpAny_pure (hQ s.heap n _ (Heap.SameBut.refl a s.heap) (Nat.le_succ n) ⟨o, es, ep, t, ho, hx, hd, hel, nd, fun i => ⟨fun z => (hm i).mp (z.elim id fun q => q ▸ old), fun z => .inl ((hm i).mpr z)⟩, hb, hf, hn, hr, hl⟩))
  | none =>
    dsimp only
    have new : k ∉ es.toList.map fun e => kf e.2 := fun z => by
      obtain ⟨e, he, q⟩ := List.mem_map.mp z
      have c := List.findIdx?_eq_none_iff.mp hfi e he
      rw [(isk e he).mpr q] at c
      cases c
    have quiet : ∀ (b : Bool) (z : Shared) (Q' : Unit → Shared → Prop), Q' () z → wpAny (model P w) A (match b with | true => rule "set.scan.the-table-gave-way" | false => pure ()) Q' E z := fun b z Q' q => by
      cases b
      · exact wpAny_pure q
      · exact wpAny_rule q
    have f1 := layNew_perm t es (knd.hash k) v
    have f2 := layNew_fits t es (knd.hash k) v
    have f3 := layNew_ris t es (knd.hash k) v hr
    have f4 := layNew_led t es (knd.hash k) v
    generalize layNew t es (knd.hash k) v = z at f1 f2 f3 f4 ⊢
    obtain ⟨fs, u, dm, gv⟩ := z
    dsimp only at f1 f2 f3 f4 ⊢
    rw [Array.toList_push] at f1
    have kp : (fs.toList.map fun e => kf e.2).Perm (k :: es.toList.map fun e => kf e.2) := by
      have q := f1.map fun e : Int × Value => kf e.2
      rw [List.map_append, List.map_singleton] at q
      rw [kb k v hk] at q
      exact q.trans (List.perm_append_singleton _ _)
    have sz : fs.size = n + 1 := by
      have q := f1.length_eq
      rw [List.length_append, List.length_singleton, Array.length_toList, Array.length_toList, hn] at q
      exact q
    have g1 : ElemsOf knd fs.toList := (hel.push hk hv).perm f1
    have g2 : (fs.toList.map fun e => kf e.2).Nodup := kp.nodup_iff.mpr (List.nodup_cons.mpr ⟨new, nd⟩)
    have g3 : ∀ i, (M i ∨ i = k) ↔ i ∈ fs.toList.map fun e => kf e.2 := fun i => by
      rw [kp.mem_iff, List.mem_cons, hm i]
      exact Or.comm
    have g4 : fs.size < scanBound := by rw [sz]; exact room
    have g7 : w.params.followText "set-order" = true ∨ u.led = true := hl.imp id fun q => by rw [f4]; exact q
    have last : ∀ h', Heap.SameBut a s.heap h' → Held knd kf h' a (fun j => M j ∨ j = k) fs.size → Q true { s with heap := h' } := fun h' sb z => hQ h' _ true sb (Nat.le_of_eq sz) z
    refine wpAny_bind (quiet _ _ _ ?_)
    split
    · refine wpAny_bind ?_
      rw [hashByValue_scannable 8 hv]
      refine wpAny_pure (held_store quiet ho hx hd g1 g2 g3 g4 ?_ ?_ ?_ fun h' sb z => ?_)
      · first | exact f2 | (split <;> first | exact f2 | exact SetTable.fits_plain_off f2)
      · first | exact f3 | (split <;> exact f3)
      · first | exact g7 | (split <;> exact g7)
      · dsimp only
        exact wpAny_pure (last h' sb z)
    · refine wpAny_bind (wpAny_pure ?_)
      simp only [↓reduceIte]
      refine held_store quiet ho hx hd g1 g2 g3 g4 f2 f3 g7 fun h' sb z => ?_
      dsimp only
      exact wpAny_pure (last h' sb z)
end
end
end Ms
set_option Elab.async false
set_option linter.all false
set_option maxRecDepth 100000
set_option maxHeartbeats 4000000
/-! set(list), sorted of it, len of it. -/
namespace Ms
open PySem PySem.Spec PyProof.Rows L2
section
variable {P : Program} {w : World} {κ : Type} [DecidableEq κ] {knd : PySem.KeyKind P w κ} {kf : Value → κ} {A : Around} {E : Value → Shared → Prop} {s : Shared}
/-- the keys of an iterator are added, one after another -/
theorem held_loop (kb : ∀ k v, knd.is k v = true → kf v = k) {I : Addr} {fp wr : List Addr} {G : Array GenState → Array GenState → Prop} {n : Nat} {Pv : Nat → Value → Prop} {St : Nat → Shared → Prop} {R : Result → Shared → Prop}
    (W : WalksS P w A.in1 I fp wr G n Pv St) {S : Addr} (off : S ∉ fp) {ks : List κ} (hn : n = ks.length) (hb : ks.length + 1 < scanBound) (hval : ∀ i v, Pv i v → ∃ k, ks[i]? = some k ∧ knd.is k v = true ∧ v.scannable = true) :
    ∀ (d i : Nat) (s : Shared), i + d = n → St i s → (∃ c, c ≤ i ∧ Held knd kf s.heap S (fun j => j ∈ ks.take i) c) →
      (∀ s' c, Moved (S :: wr) G s s' → Held knd kf s'.heap S (fun j => j ∈ ks) c → R (.ok (.ret .none)) s') → codeAny (model P w) A (.builtin "set.update.loop" ⟨[.ref S, .ref I], []⟩) R s
  | 0, i, s, hd, hst, ⟨c, hc, hS⟩, hR => by
    have ei : i = n := by omega
    subst ei
    have offw : S ∉ wr := fun z => off (W.sub _ z)
    refine codeAny_builtin F.entry_set_update_loop ?_
    rw [Around.under_plainId F.plain_set_update_loop _]
    show wpAny _ A.in1 (pyNext (.ref I) >>= _) _ _ s
    refine wpAny_bind (W.done s _ _ hst fun s' mv => ?_)
    show wpAny _ A.in1 (ret Value.none) _ _ s'
    rw [List.take_of_length_le (Nat.le_of_eq hn.symm)] at hS
    exact wpAny_pure (hR s' c (mv.mono fun b hb => List.mem_cons_of_mem _ hb) (hS.carry fun o e => mv.heap S o offw e))
  | d + 1, i, s, hd, hst, ⟨c, hc, hS⟩, hR => by
    have offw : S ∉ wr := fun z => off (W.sub _ z)
    refine codeAny_builtin F.entry_set_update_loop ?_
    rw [Around.under_plainId F.plain_set_update_loop _]
    show wpAny _ A.in1 (pyNext (.ref I) >>= _) _ _ s
    refine wpAny_bind (W.item i s _ _ (by omega) hst fun v s' hP hst' mv => ?_)
    obtain ⟨k, hk, isk, sck⟩ := hval i v hP
    have hS' := hS.carry fun o e => mv.heap S o offw e
    show wpAny _ A.in1 (holding [v] (setAdd S v) >>= _) _ _ s'
    refine wpAny_bind (wpAny_holding ?_)
    unfold setAdd
    refine wpAny_holding (wpAny_bind (knd.pyHash isk ?_))
    refine held_add kb isk sck (s := { s' with toks := s'.toks + 1 }) hS' (by omega) fun h' m b sb hm hS2 => ?_
    have step : ∀ {b0 : Addr}, b0 ≠ S → ∀ o, s'.heap.get? b0 = some o → h'.get? b0 = some o := fun {b0} ne o e => (sb.2 b0 ne).trans e
    refine wpAny_pure ⟨plainId_quiet F.plain_set_update_loop _, held_loop kb W off hn hb hval d (i + 1) _ (by omega) (W.frame _ s' _ _ hst' (Nat.le_succ _) fun b0 hb0 o e => step (fun z => off (z ▸ hb0)) o e)
      ⟨m, by omega, hS2.alike fun j => ?_⟩ fun s2 c2 mv2 h2 => hR s2 c2 (Moved.trans W.gtrans ((mv.mono fun b hb => List.mem_cons_of_mem _ hb).then_heap (Nat.le_succ _) fun b0 o hb0 e => step (fun z => hb0 (by rw [z]; exact List.mem_cons_self)) o e) mv2) h2⟩
    rw [List.take_add_one, hk, List.mem_append]
    exact or_congr_right (by simp)

set_option maxHeartbeats 8000000 in
/-- set(l) of a list -/
theorem held_of_list (kb : ∀ k v, knd.is k v = true → kf v = k) {l : Addr} {items : Array Value} {ks : List κ} {Q : Value → Shared → Prop} (hh : A.handled = none) (hl : s.heap.IsList l items) (hn : items.size = ks.length) (hb : ks.length + 1 < scanBound)
    (hval : ∀ (i : Nat) v, items[i]? = some v → ∃ k, ks[i]? = some k ∧ knd.is k v = true ∧ v.scannable = true)
    (hQ : ∀ (h' : Heap) (tk c : Nat), Held knd kf h' s.heap.objs.size (fun j => j ∈ ks) c → (∀ b o, s.heap.get? b = some o → h'.get? b = some o) → Q (.ref s.heap.objs.size) { s with heap := h', toks := tk }) :
    wpAny (model P w) A (call (.type "set") [.ref l]) Q E s := by
  obtain ⟨c0, tl0, mro0⟩ := F.called_set.mro
  have made0 := F.called_set.made
  have sub0 := F.called_set.sub
  have ty0 := F.called_set.notType
  have new0 := F.called_set.canCreate
  have chk0 := F.typeCall_set_1 (.ref l)
  refine wpAny_call (codeAny_of_tree ?_)
  show wpAny _ _ (callAny (.type "set") _) _ _ _
  refine wpAny_pure ⟨Code.quiet_builtin _ (by decide +kernel), codeAny_builtin F.entry_type_call ?_⟩
  rw [Around.under_plain (weight_type_call_type "set" [.ref l] []) rfl]
  repeat (any_goals (first | assumption | wp_step))
  let o0 : Obj := { cls := .type "set", dict := none, data := .set #[] 0 (.fresh 0 0 (!w.params.followText "set-order")) }
  refine codeAny_mono (code_set_led1 (.ref l) (E := E) (Q₁ := fun v z => v = .ref s.heap.objs.size ∧ z = { s with heap := s.heap.push o0 }) ⟨rfl, rfl⟩) fun r z hr => ?_
  rcases r with er | fl
  · exact hr
  cases fl with
  | ret v =>
    obtain ⟨rfl, rfl⟩ := hr
    have at0 : (s.heap.push o0).get? s.heap.objs.size = some o0 := Heap.get?_push_size _ rfl
    have tyS : Shared.TypeIs { s with heap := s.heap.push o0 } (.ref s.heap.objs.size) "set" := ⟨_, at0, rfl⟩
    have li0 := F.called_set.init.lookup
    have bi0 := F.called_set.init.bind (.ref s.heap.objs.size)
    repeat (any_goals (first | assumption | wp_step))
    refine codeAny_mono (codeAny_call_builtin (R := wants (fun v2 z2 => v2 = .none ∧ ∃ h' tk c, z2 = { s with heap := h', toks := tk } ∧ Held knd kf h' s.heap.objs.size (fun j => j ∈ ks) c ∧ ∀ b o, s.heap.get? b = some o → h'.get? b = some o) E)
      F.called_set.init.plain F.entry_set_init (check_set_init_1 tyS ?_)) fun r2 z2 hr2 => ?_
    · obtain ⟨ol, hol, hcl, nl, hdl⟩ := hl
      obtain ⟨ocl, odi, oda, osl⟩ := ol
      simp only at hcl hdl
      subst hcl; subst hdl
      have hol' : (s.heap.push o0).get? l = some { cls := .type "list", dict := odi, data := .seq items nl, slots := osl } := Heap.get?_push_of_some _ hol
      have nos := F.sub_list_set
      have nof := F.sub_list_frozenset
      have nod : (Value.type "list" == Value.type "dict") = false := by decide
      have hl1 : (s.heap.push o0).IsList l items := ⟨_, hol', rfl, nl, rfl⟩
      unfold Builtin.«set.__init__» noKeywords Builtin.Frozenset.updateFrom
      generalize hPI : pyIter = PI
      wp_walk
      subst hPI
      refine wpAny_pyIter_list hl1 (wpAny_bind (wpAny_runValue ?_))
      have lts : l < s.heap.objs.size := Heap.lt_size hol
      have hh3 : A.in1.in1.in1.handled = none := by simp [hh]
      have sz1 : (s.heap.push o0).objs.size = s.heap.objs.size + 1 := Heap.size_push ..
      have neI : l ≠ (s.heap.push o0).objs.size := by rw [sz1]; exact Nat.ne_of_lt (Nat.lt_succ_of_lt lts)
      have off : s.heap.objs.size ∉ [(s.heap.push o0).objs.size, l] := fun z => by
        rcases List.mem_cons.mp z with z | z
        · rw [sz1] at z
          exact absurd z (Nat.ne_of_lt (Nat.lt_succ_self _))
        · exact absurd (List.mem_singleton.mp z) (Nat.ne_of_gt lts)
      refine held_loop kb ((Walks.list hh3 _ l neI items).toS) off hn hb hval items.size 0 _ (by omega) ⟨⟨_, Heap.get?_push_size _ rfl, rfl, rfl⟩, hl1.push _⟩ ⟨0, Nat.le_refl 0, ?_⟩ fun s' c mv hS => ?_
      · exact (Held.fresh (Heap.get?_push_of_some _ at0)).alike fun j => by simp
      · obtain ⟨h', g', d', t', os'⟩ := s'
        obtain rfl : g' = s.gens := mv.gens
        obtain rfl : d' = s.drawn := mv.drawn
        obtain rfl : os' = s.os := mv.os
        show wpAny _ _ _ _ _ _
        refine wpAny_pure ?_
        show wpAny _ _ (ret Value.none) _ _ _
        refine wpAny_pure ⟨rfl, h', t', c, rfl, hS, fun b o e => ?_⟩
        have lb : b < s.heap.objs.size := Heap.lt_size e
        refine mv.heap b o (fun z => ?_) (Heap.get?_push_of_some _ (Heap.get?_push_of_some _ e))
        rcases List.mem_cons.mp z with z | z
        · exact absurd z (Nat.ne_of_lt lb)
        · have z' : b = s.heap.objs.size + 1 := by rw [← sz1]; exact List.mem_singleton.mp z
          exact absurd z' (Nat.ne_of_lt (Nat.lt_succ_of_lt lb))
    · rcases r2 with er | fl2
      · exact hr2
      cases fl2 with
      | ret v2 =>
        obtain ⟨rfl, h', tk, c, rfl, hS, hk⟩ := hr2
        repeat (any_goals (first | assumption | wp_step))
        exact hQ _ _ _ hS hk
      | _ => exact hr2.elim
  | _ => exact hr.elim
end
end Ms
set_option Elab.async false
set_option linter.all false
set_option maxRecDepth 100000
set_option maxHeartbeats 4000000
/-! set(list), sorted, len by values, over the layer. -/
namespace Ms
open PySem PySem.Spec PyProof.Rows L2
/-! ### ints -/
def intOf : Value → Int
  | .int k _ => k
  | _ => 0
theorem intOf_is {P : Program} {w : World} (k : Int) (v : Value) (h : (intKind P w).is k v = true) : intOf v = k := by
  obtain ⟨t, rfl⟩ := Value.isInt_shape (k := k) (v := v) h
  rfl
/-- such a set of ints is one of the layer's -/
theorem held_setR {P : Program} {w : World} {h : Heap} {a : Addr} {M : Int → Prop} {n : Nat} {S : Int → Bool} (r : Held (intKind P w) intOf h a M n) (e : ∀ k, S k = true ↔ M k) : SetR w h a S n := by
  obtain ⟨o, es, ep, t, h1, h2, h3, h4, h5, h6, more⟩ := r
  have ek : ∀ e ∈ es.toList, intOf e.2 = keyOf e := fun e he => by
    obtain ⟨⟨k, hk, _⟩, _⟩ := h4 e he
    obtain ⟨t, q⟩ := Value.isInt_shape (k := k) (v := e.2) hk
    unfold keyOf
    rw [q]
    rfl
  have em : (es.toList.map fun e => intOf e.2) = es.toList.map keyOf := List.map_congr_left ek
  refine ⟨o, es, ep, t, h1, h2, h3, fun e he => ?_, by rw [← em]; exact h5, fun k => by rw [e k, h6 k, em], more⟩
  obtain ⟨⟨k, hk, hh⟩, _⟩ := h4 e he
  obtain ⟨t, q⟩ := Value.isInt_shape (k := k) (v := e.2) hk
  exact ⟨k, t, q, hh⟩
section
variable {X : Cx}
/-- set(l), l a list of ints: a new set with just these, no more than any list that has them all -/
def rSetI (K : PySem.W.Frag) (w : World) : List V → Hp → VK → Prop := fun vs H Q => ∃ (a : Addr) (ns : List Int), vs = [V.ref a] ∧ SqL K H a (ns.map V.int) ∧ ns.length < 4000 ∧
  ∀ (p : Addr) (S : Int → Bool) (n : Nat), H p = none → (∀ k, S k = true ↔ k ∈ ns) → (∀ l : List Int, (∀ k ∈ ns, k ∈ l) → n ≤ l.length) → Q (.ref p) (upd H p (SetO w p S n))
theorem cr_setI (hc : X.calm = true) : CallR X (.type "set") (rSetI X.K X.w) := by
  intro pins s σ H vs us Q I r h
  obtain ⟨a, ns, rfl, hs, hz, q⟩ := h
  obtain ⟨its, rv, hl, _⟩ := I.list hs
  rw [Vals.ref1 r]
  have hi := rv.ints
  have hlen : its.toArray.size = ns.length := by
    have e := rv.length
    rw [List.length_map] at e
    rw [List.size_toArray, e]
  refine held_of_list (knd := intKind X.prog X.w) (kf := intOf) (ks := ns) intOf_is (I.ok.hd hc) hl.isList hlen (by unfold scanBound; omega) (fun i v hv => ?_) fun h' tk c hS hk => ?_
  · have hv' : its[i]? = some v := by
      rw [← Array.getElem?_toList] at hv
      exact hv
    have hin : i < ns.length := by
      have := (List.getElem?_eq_some_iff.mp hv').1
      rw [← hlen, List.size_toArray]
      exact this
    obtain ⟨t, e⟩ := PyProof.Rows.IntsAre.int_at hi i v hv'
    refine ⟨ns[i], List.getElem?_eq_getElem hin, ?_, ?_⟩
    · rw [e, List.getD_eq_getElem?_getD, List.getElem?_eq_getElem hin]
      exact intKind_is _ _ _ _
    · rw [e]
      rfl
  · have R : SetR X.w h' s.heap.objs.size (fun k => decide (k ∈ ns)) c := held_setR hS fun k => decide_eq_true_iff
    have hn : H s.heap.objs.size = none := I.hok.fresh (Nat.le_refl _)
    exact ⟨.ref _, upd H s.heap.objs.size (SetO X.w s.heap.objs.size (fun k => decide (k ∈ ns)) c), I.laid (t' := tk) hk (Nat.le_refl _) (setO_new R), rfl,
      q _ _ c hn (fun k => decide_eq_true_iff) fun l hl => hS.few fun k hk => hl k hk⟩
end

/-! ### texts -/
def txtOf : Value → Str
  | .str x _ => x
  | _ => Str.empty
theorem txtOf_is {P : Program} {w : World} (k : Str) (v : Value) (h : (PySem.strKind P w).is k v = true) : txtOf v = k := by
  obtain ⟨t, rfl⟩ := Value.isStrOf_shape (x := k) (v := v) h
  rfl
/-- the set of texts at a -/
def SetS (P : Program) (w : World) (a : Addr) (M : Str → Prop) (n : Nat) : HO := .ext fun h => Held (PySem.strKind P w) txtOf h a M n
theorem strs_out {l : List Value} (h : ∀ v ∈ l, ∃ x t, v = Value.str x t) : StrsAre l (l.map txtOf) := by
  induction l with
  | nil => exact .nil
  | cons v l ih =>
    obtain ⟨x, t, rfl⟩ := h v List.mem_cons_self
    exact .cons x t (ih fun u hu => h u (List.mem_cons_of_mem _ hu))
section
variable {X : Cx}
def rSetS (K : PySem.W.Frag) (P : Program) (w : World) : List V → Hp → VK → Prop := fun vs H Q => ∃ (a : Addr) (xs : List Str), vs = [V.ref a] ∧ SqL K H a (xs.map V.str) ∧ xs.length < 64 ∧
  ∀ (p : Addr) (n : Nat), H p = none → n ≤ xs.length → (xs.Nodup → n = xs.length) → Q (.ref p) (upd H p (SetS P w p (fun x => x ∈ xs) n))
theorem cr_setS (hc : X.calm = true) : CallR X (.type "set") (rSetS X.K X.prog X.w) := by
  intro pins s σ H vs us Q I r h
  obtain ⟨a, xs, rfl, hs, hz, q⟩ := h
  obtain ⟨its, rv, hl, _⟩ := I.list hs
  rw [Vals.ref1 r]
  have hlen : its.toArray.size = xs.length := by
    have e := rv.length
    rw [List.length_map] at e
    rw [List.size_toArray, e]
  refine held_of_list (knd := PySem.strKind X.prog X.w) (kf := txtOf) (ks := xs) txtOf_is (I.ok.hd hc) hl.isList hlen (by unfold scanBound; omega) (fun i v hv => ?_) fun h' tk c hS hk => ?_
  · have hv' : its[i]? = some v := by
      rw [← Array.getElem?_toList] at hv
      exact hv
    have hin : i < xs.length := by
      have := (List.getElem?_eq_some_iff.mp hv').1
      rw [← hlen, List.size_toArray]
      exact this
    have ex : (xs.map V.str)[i]? = some (V.str xs[i]) := by rw [List.getElem?_map, List.getElem?_eq_getElem hin]; rfl
    obtain ⟨u, hu, t, eu⟩ := rv.get ex
    rw [hv'] at hu
    cases hu
    subst eu
    exact ⟨xs[i], List.getElem?_eq_getElem hin, strKind_is _ _ _ _, rfl⟩
  · have hn : H s.heap.objs.size = none := I.hok.fresh (Nat.le_refl _)
    have new : ObjOk X.prog X.w (upd H s.heap.objs.size (SetS X.prog X.w s.heap.objs.size (fun x => x ∈ xs) c)) h' s.heap.objs.size (SetS X.prog X.w s.heap.objs.size (fun x => x ∈ xs) c) := by
      have ⟨o, _, _, _, ho, _⟩ := hS
      exact ⟨hS, ⟨o, ho⟩, fun _ _ p k => p.carry k⟩
    exact ⟨.ref _, upd H s.heap.objs.size (SetS X.prog X.w s.heap.objs.size (fun x => x ∈ xs) c), I.laid (t' := tk) hk (Nat.le_refl _) new, rfl,
      q _ c hn (hS.few fun k hk => hk) fun nd => Nat.le_antisymm (hS.few fun k hk => hk) (hS.all nd fun k hk => hk)⟩
theorem setS_at {pins : List (Addr × Obj)} {σ : L2.St} {H : Hp} {s : Shared} {a : Addr} {M : Str → Prop} {n : Nat} (I : Inv X pins σ H s) (h : H a = some (SetS X.prog X.w a M n)) : Held (PySem.strKind X.prog X.w) txtOf s.heap a M n := (I.hok a _ h).1
def rLenSetS (P : Program) (w : World) : List V → Hp → VK → Prop := fun vs H Q => ∃ (a : Addr) (M : Str → Prop) (n : Nat), vs = [V.ref a] ∧ H a = some (SetS P w a M n) ∧ Q (.int n) H
theorem cr_lenSetS : CallR X (.builtin "len") (rLenSetS X.prog X.w) := by
  intro pins s σ H vs us Q I r h
  obtain ⟨a, M, n, rfl, ha, q⟩ := h
  rw [Vals.ref1 r]
  obtain ⟨o, es, ep, t, h1, h2, h3, _, _, _, h7, h8, h9, _⟩ := setS_at I ha
  refine call_len_set h1 h2 h3 h8 (by rw [h9]; unfold scanBound at h7; omega) ⟨.int n, H, I.tok _, ⟨_, by rw [h9]⟩, q⟩
def rSortSetS (P : Program) (w : World) : List V → Hp → VK → Prop := fun vs H Q => ∃ (a : Addr) (M : Str → Prop) (n : Nat), vs = [V.ref a] ∧ H a = some (SetS P w a M n) ∧ n < 64 ∧
  ∀ (ys : List Str) (p : Addr), ys.length = n → (∀ x, x ∈ ys ↔ M x) → H p = none → Q (.ref p) (upd H p (.lst (ys.map V.str)))
theorem cr_sortSetS (hc : X.calm = true) : CallR X (.builtin "sorted") (rSortSetS X.prog X.w) := by
  intro pins s σ H vs us Q I r h
  obtain ⟨a, M, n, rfl, ha, h64, q⟩ := h
  rw [Vals.ref1 r]
  obtain ⟨o, es, ep, t, ho, hx, hd, hel, nd, hm, hb, hf, hn, hr, hl⟩ := setS_at I ha
  refine Calls.call_function_entry kind_sorted plain_sorted entry_sorted (args_sorted1 _) ?_
  unfold Builtin.«sorted»
  refine wpAny_bind (m := checkCount "sorted" 1 1 _) (wpAny_pure ?_)
  refine wpAny_bind (collect_set (A := X.A.in1) (I.ok.hd hc) ⟨o, ho, hx.1, hd⟩ hf hb hr hl fun s1 vs k1 hz g1 o1 pm => ?_)
  have hvl : vs.length = n := by rw [pm.length_eq, List.length_map, Array.length_toList]; exact hn
  have hS : StrsAre vs (vs.map txtOf) := strs_out fun v hv => by
    obtain ⟨e, he, q⟩ := List.mem_map.mp (pm.mem_iff.mp hv)
    obtain ⟨⟨k, hk, _⟩, _⟩ := hel e he
    obtain ⟨t, z⟩ := Value.isStrOf_shape (x := k) (v := e.2) hk
    exact ⟨k, t, q.symm.trans z⟩
  have pk : (vs.map txtOf).Perm (es.toList.map fun e => txtOf e.2) := by
    have z := pm.map txtOf
    rw [List.map_map] at z
    exact z
  refine wpAny_bind (wpAny_newList ?_ (by rw [hvl, sizeLine_eq]; omega))
  have hoL : (s1.heap.push (seqObj "list" vs.toArray 0)).get? s1.heap.objs.size = some (seqObj "list" vs.toArray 0) := Heap.get?_push_size _ rfl
  refine wpAny_bind (wpAny_holding (wpAny_call_entry slot_list_sort ⟨_, hoL, rfl⟩ entry_list_sort (list_sort_treeK strKind_oneLt hoL hS.keysOf (fun v1 v2 rest e => keyKind_strs (by rw [← e]; exact hS)) (by rw [hvl]; exact h64)
    fun st hp hs => ⟨_, rfl, ?_⟩) (args_list_sort _)))
  obtain ⟨ys, y1, y2, _⟩ := sorted_out_str hS hp hs
  obtain ⟨c, hcc⟩ := sortedHeap_at (vs := vs) (out := (arrOf st).map (·.2)) hoL
  have keep : ∀ b u, s.heap.get? b = some u → (sortedHeap (s1.heap.push (seqObj "list" vs.toArray 0)) s1.heap.objs.size vs ((arrOf st).map (·.2))).get? b = some u := fun b u e => by
    have z := k1 b u e
    have lt := Heap.lt_size z
    rw [sortedHeap_old (Nat.ne_of_lt lt) (by rw [size_push']; exact Nat.lt_succ_of_lt lt)]
    exact Heap.get?_push_of_some _ z
  have pn : ys.Perm (es.toList.map fun e => txtOf e.2) := y2.trans pk
  have yl : ys.length = n := by rw [pn.length_eq, List.length_map, Array.length_toList]; exact hn
  have hfr : H s1.heap.objs.size = none := I.hok.fresh hz
  have J : Inv X pins σ (upd H s1.heap.objs.size (.lst (ys.map V.str))) { s with heap := sortedHeap (s1.heap.push (seqObj "list" vs.toArray 0)) s1.heap.objs.size vs ((arrOf st).map (·.2)), gens := s1.gens, drawn := s1.drawn, toks := s1.toks } :=
    I.call (ch := []) (Un.laid keep hz hfr) (I.hok.laid keep hz ⟨by rw [List.length_map, yl, sizeLine_eq]; omega, _, c, vals_of_strs y1, by rw [Array.toArray_toList]; exact hcc⟩) (by rw [g1]; exact I.bare) (fun _ z => nomatch z)
  refine wpAny_pure ⟨_, rfl, ⟨.ref s1.heap.objs.size, _, ?_, rfl, q ys _ yl (fun x => by rw [pn.mem_iff, ← hm x]) hfr⟩⟩
  have e : ({ s1 with heap := sortedHeap (s1.heap.push (seqObj "list" vs.toArray 0)) s1.heap.objs.size vs ((arrOf st).map (·.2)) } : Shared) = { s with heap := sortedHeap (s1.heap.push (seqObj "list" vs.toArray 0)) s1.heap.objs.size vs ((arrOf st).map (·.2)), gens := s1.gens, drawn := s1.drawn, toks := s1.toks } := by
    cases s1
    cases s
    cases o1
    rfl
  rw [← e] at J
  exact J
end

/-! ### sorted of a list of five-tuples -/
structure Row5 where
  at_ : Addr
  nm : Str
  tl : Str
  hd : Str
  lo : Int
  hi : Int
def Row5.data (r : Row5) : PyData := .tuple [.str r.nm, .str r.tl, .str r.hd, .int r.lo, .int r.hi]
def Row5.vals (r : Row5) : List V := [.str r.nm, .str r.tl, .str r.hd, .int r.lo, .int r.hi]
section
variable {X : Cx}
def rSort5 (K : PySem.W.Frag) : List V → Hp → VK → Prop := fun vs H Q => ∃ (a : Addr) (rs : List Row5), vs = [V.ref a] ∧ SqL K H a (rs.map fun r => V.ref r.at_) ∧ (∀ r ∈ rs, SqT K H r.at_ r.vals) ∧ rs.length < 1000 ∧
  ∀ (ys : List Row5) (p : Addr), ys.Perm rs → H p = none → Q (.ref p) (upd H p (.lst (ys.map fun r => V.ref r.at_)))
theorem each_refs {rs : List Row5} : ∀ {us : List Value}, Vals (rs.map fun r => V.ref r.at_) us → PySem.W.EachIs (fun (v : Value) (r : Row5) => v = .ref r.at_) us rs := by
  induction rs with
  | nil =>
    intro us h
    cases h
    exact .nil
  | cons r rs ih =>
    intro us h
    cases h with
    | cons h1 h2 => exact .cons h1 (ih h2)
theorem refs_each : ∀ {us : List Value} {rs : List Row5}, PySem.W.EachIs (fun (v : Value) (r : Row5) => v = .ref r.at_) us rs → Vals (rs.map fun r => V.ref r.at_) us
  | _, _, .nil => .nil
  | _, _, .cons h t => .cons h (refs_each t)
theorem each_and {us : List Value} {rs : List Row5} {R : Value → Row5 → Prop} (h : PySem.W.EachIs (fun (v : Value) (r : Row5) => v = .ref r.at_) us rs) (k : ∀ r ∈ rs, R (.ref r.at_) r) : PySem.W.EachIs R us rs := by
  induction h with
  | nil => exact .nil
  | cons e t ih => exact .cons (by rw [e]; exact k _ List.mem_cons_self) (ih fun r hr => k r (List.mem_cons_of_mem _ hr))
theorem alike5 (r r' : Row5) : PySem.W.alike r.data r'.data = true := by
  simp [Row5.data, PySem.W.alike, PySem.W.alikeAll]
theorem cr_sort5 (hu : X.A.units + 64 < cLine) : CallR X (.builtin "sorted") (rSort5 X.K) := by
  intro pins s σ H vs us Q I r h
  obtain ⟨a, rs, rfl, hs, ht, hz, q⟩ := h
  obtain ⟨its, rv, hl, _⟩ := I.list hs
  rw [Vals.ref1 r]
  have he := each_refs rv
  have hz' : rs.length ≤ sizeLine := by rw [sizeLine_eq]; omega
  refine PySem.W.sorted_data (enc := Row5.data) (bs := rs) hl.isList he (each_and he fun r hr => ?_) (PySem.W.AllAlike.of alike5) (PySem.W.Sortable.tuples fun b => ⟨_, _, rfl⟩) hz' (fun b _ => ?_) fun out ho eo => ?_
  · have t := ht r hr
    exact Dp.reads I r.data (.ref r.at_) (.ref r.at_) (.tup t (.cons (.str _) (.cons (.str _) (.cons (.str _) (.cons (.int _) (.cons (.int _) .nil)))))) rfl
  · have d : (Row5.data b).depth = 1 := by simp [Row5.data, PyData.depth, PyData.depthAll]
    rw [d]; omega
  · obtain ⟨ep, he'⟩ := PyProof.Rows.sortedAll_at s.heap its out.toArray
    have hp : (rs.mergeSort (PySem.W.dataLe false Row5.data)).Perm rs := List.mergeSort_perm _ _
    exact ⟨.ref _, upd H (s.heap.objs.size + 1) (.lst ((rs.mergeSort (PySem.W.dataLe false Row5.data)).map fun r => V.ref r.at_)), I.laid (t' := s.toks) (fun _ _ => PyProof.Rows.sortedAll_old) (Nat.le_succ _)
      ⟨by rw [List.length_map, hp.length_eq]; exact hz', out, ep, refs_each eo, he'⟩, rfl, q _ _ hp (I.hok.fresh (Nat.le_succ _))⟩
end
end Ms
set_option Elab.async false
set_option linter.all false
set_option maxRecDepth 100000
set_option maxHeartbeats 4000000
/-! Words for calls, a few more rules, the facts of the top, heaps. -/
namespace Ms
open PySem PySem.Spec PyProof.Rows L2

/-! ### name = {k: v for ..} on one line, the name a local -/
section
variable {X : Cx}
theorem sw_dict {kx vx : Expr} {gs : List Comprehension} {scope : Scope} {pos py : Pos} {y : Str} {l : Nat} {env : Env} (hk : env.scope.kind = .function) (hy : env.scope.names.lookup y = some .local) (hl : (py.line == pos.line) = true)
    (ha : (scope.names.any fun (n, k) => n == y && (k == .local || k == .cell)) = false) : swapsWith (.DictComp kx vx gs scope pos) (some (.Name y py)) l env = pure true := by
  have k1 : env.kindOf y = some .local := hy
  have k2 : env.blockKind = .function := by unfold Env.blockKind; rw [hk]; rfl
  unfold swapsWith
  simp only [k2, k1, ha, Expr.pos, hl]
  rfl
theorem ps_setDc {i : Nat} {y : Str} {py : Pos} {kx vx tg iter : Expr} {ifs : List Expr} {scope : Scope} {own : List (Str × Nat)} {pos spos : Pos} {wi : TI} {g : TG} {tt : TT} {tk tv : TE} (hc : X.calm = true) (hN : X.N.Nodup) (hy : X.N[i]? = some y) (hyl : X.env.scope.names.lookup y = some .local)
    (hsw : swapsWith (.DictComp kx vx [⟨tg, iter, ifs, 0⟩] scope pos) (some (.Name y py)) spos.line X.env = pure true) (hi : PI X tg iter wi) (ok : BlkOk X.N X.env.scope scope own)
    (hg : ∀ (s : Shared) (H : Hp) (C : Addr) (cl : List (Str × Addr)) (fp : List Addr), PG (X.blk s H scope (compEnvC scope cl C X.env) fp) tg g)
    (ht : ∀ (s : Shared) (H : Hp) (C : Addr) (cl : List (Str × Addr)) (fp : List Addr), PTs (X.blk s H scope (compEnvC scope cl C X.env) fp) ifs tt)
    (hk : ∀ (s : Shared) (H : Hp) (C : Addr) (cl : List (Str × Addr)) (fp : List Addr), PE (X.blk s H scope (compEnvC scope cl C X.env) fp) kx tk)
    (hv : ∀ (s : Shared) (H : Hp) (C : Addr) (cl : List (Str × Addr)) (fp : List Addr), PE (X.blk s H scope (compEnvC scope cl C X.env) fp) vx tv) (hs : ∀ x, foldedSetIterable iter X.env x = pure x := by intro _; rfl) :
    PS X (.Assign [.Name y py] (.DictComp kx vx [⟨tg, iter, ifs, 0⟩] scope pos) spos) (tAsg (tDc wi g tt tk tv (own.map (·.2))) (gName i)) := by
  refine ⟨fun pins s σ H D I h => ?_⟩
  rw [exec_Assign_Name_used _ _ _ _ hsw]
  refine wpAny_bind (wpAny_standAt (wpAny_bind ?_))
  show wpAny _ X.A (do let _ ← comprehension (.DictComp kx vx [⟨tg, iter, ifs, 0⟩] scope pos) scope X.env (firstIterPos [⟨tg, iter, ifs, 0⟩] pos) newDict false (eval iter X.env) (some (assign (.Name y py) X.env))) _ _ s
  have h : tDc wi g tt tk tv (own.map (·.2)) σ H (fun x H1 => gName i x σ H1 D.nx) := h
  refine wpAny_bind (thn (dc_core (Qf := fun _ s' => SP X pins D .next s') hc hN I hi ok hg ht hk hv hs h fun L C s' m H' I' q hn f => ?_) fun _ s' hq => wpAny_pure (wpAny_pure hq))
  show wpAny _ _ (assign (.Name y py) X.env (.ref L)) _ _ _
  refine wpAny_assign_Name (store_ok2 (v := V.ref L) I' hN hy (.inl hyl) rfl (fun s2 I2 ⟨a, sb, ha⟩ => ?_) (.inr hyl))
  obtain ⟨f0, f1, f2, f3, f4, f5⟩ := f
  have apart : C ≠ a := by
    rcases ha with z | z
    · rw [z]; exact f1
    · exact fun e => f4 y a z e.symm
  exact ⟨m, hn.sameBut sb apart, fun h3 sb3 => ⟨_, H', I2.turned (t' := s2.toks) (fun b o hb e => (sb3.2 b hb).trans e) f0 f1 f3 f4 f5, q⟩⟩

/-- what an expression gives is locked from there on -/
def tFreeze (t : TE) : TE := fun σ H Q => t σ H fun x H1 => ∃ d u, x = .ref d ∧ H1 d = some u ∧ Mut (some u) ∧ ∀ od, Q (.ref d) (upd H1 d (.frz od u))
theorem pe_freeze {e : Expr} {t : TE} (h : PE X e t) : PE X e (tFreeze t) := by
  refine ⟨fun pins s σ H Q I hw => thn (h.run pins s σ H _ I hw) fun v s1 ⟨x, H1, I1, r, d, u, ex, hd, mu, q⟩ => ?_⟩
  subst ex
  obtain ⟨od, I2⟩ := I1.lock hd mu
  exact ⟨.ref d, _, I2, r, q od⟩

/-- a dict comprehension over a walk that stays -/
theorem dc_it {J : It} {n : Nat} {G : Hp → Prop} {Y : Nat → Hp → V → Hp → Prop} (w : Walk J n G Y) {g : TG} {tt : TT} {tk tv : TE} {vs : List Nat} {σ : L2.St} {H1 : Hp} {D : Addr} {Qd : Hp → Prop} (Pv : Nat → Hp → Prop) (h0 : Pv 0 (upd H1 D (.dK []))) (hG : ∀ i H, i ≤ n → Pv i H → G H)
    (hs : ∀ i x H H', i < n → Pv i H → Y i H x H' → g x (wipe σ vs) H' fun σ2 H2 => wipe σ2 vs = wipe σ vs ∧ tt σ2 H2 fun b H3 =>
      if b = true then tk σ2 H3 fun y H4 => tv σ2 H4 fun z H5 => ∃ kvs k, y = kV k ∧ H5 D = some (.dK kvs) ∧ kvs.length < sizeLine ∧ Pv (i + 1) (upd H5 D (.dK (putK kvs k z))) else Pv (i + 1) H3) (hd : ∀ H, Pv n H → Qd H) :
    ∃ W : Nat → Nat → Hp → Prop, (∃ m, W 0 m (upd H1 D (.dK []))) ∧ ∀ i m H, W i m H →
      (J.stop i H ∧ Qd H) ∨ (J.go i H ∧ ∃ Nx : Hp → Prop, (∀ H', Nx H' → ∃ m', m' < m ∧ W (i + 1) m' H') ∧ ∀ x H', J.yld i H x H' → g x (wipe σ vs) H' fun σ2 H2 => wipe σ2 vs = wipe σ vs ∧ tt σ2 H2 fun b H3 =>
        if b = true then tk σ2 H3 fun y H4 => tv σ2 H4 fun z H5 => ∃ kvs k, y = kV k ∧ H5 D = some (.dK kvs) ∧ kvs.length < sizeLine ∧ Nx (upd H5 D (.dK (putK kvs k z))) else Nx H3) := by
  refine ⟨fun i m H => m = n - i ∧ i ≤ n ∧ Pv i H, ⟨n, by simp, Nat.zero_le _, h0⟩, ?_⟩
  rintro i m H ⟨rfl, hi, p⟩
  by_cases lt : i < n
  · exact .inr ⟨w.goes i H lt (hG i H hi p), Pv (i + 1), fun H' p' => ⟨n - (i + 1), by omega, rfl, lt, p'⟩, fun x H' y => hs i x H H' lt p (w.yields i H x H' lt (hG i H hi p) y)⟩
  · have e : i = n := by omega
    subst e
    exact .inl ⟨w.stops H (hG i H hi p), hd H p⟩
end

/-! ### a def of the module, called by its name; a method; a class made -/
section
variable {P : Program} {w : World} {K : PySem.W.Frag} {mg : Str → Option Value} {base : Heap}
structure Cal (P : Program) (w : World) (K : PySem.W.Frag) (mg : Str → Option Value) (base : Heap) (k : Nat) (x : Str) (sp : Sp) : Prop where
  ex : ∃ (f : Addr) (fd : FuncData) (ps : List Str), FnOk P w K mg base CX0 k f fd ps sp ∧ mg x = some (.ref f) ∧ PySem.W.keepIn K (.ref f) = true ∧ Binds K fd ps []
structure Met (P : Program) (w : World) (K : PySem.W.Frag) (mg : Str → Option Value) (base : Heap) (k : Nat) (C : Addr) (m : Str) (sp : Sp) : Prop where
  ex : ∃ (f : Addr) (fd : FuncData) (ps : List Str), Cls K C ∧ Meth K C m f ∧ FnOk P w K mg base CX0 k f fd ps sp ∧ Binds K fd ps []
structure Mak (P : Program) (w : World) (K : PySem.W.Frag) (mg : Str → Option Value) (base : Heap) (k : Nat) (x : Str) (C : Addr) (sp : Sp) : Prop where
  ex : ∃ (f : Addr) (fd : FuncData) (ps : List Str), Mk K C f ∧ FnOk P w K mg base CX0 k f fd ps sp ∧ mg x = some (.ref C) ∧ Binds K fd ps []
structure Prp (P : Program) (w : World) (K : PySem.W.Frag) (mg : Str → Option Value) (base : Heap) (k : Nat) (C : Addr) (m : Str) (sp : Sp) : Prop where
  ex : ∃ (p g : Addr) (fd : FuncData) (ps : List Str), Cls K C ∧ PropOf K C m p g ∧ FnOk P w K mg base CX0 k g fd ps sp ∧ Binds K fd ps []
/-- what the body of a def is to show -/
abbrev Body (P : Program) (w : World) (K : PySem.W.Frag) (mg : Str → Option Value) (base : Heap) (N : List Str) (qual : Str) (st : Stmt) (f : Addr) (k : Nat) (sp : Sp) : Prop :=
  ∀ (cdv : Value) (A : Around) (outer : List Env) (s : Shared) (H : Hp) (vs : List V) (Q : VK) (E : XK), Room k (A.deeper (envOfC qual (defScope st) s.heap.objs.size f cdv)) → sp vs H Q E →
    ∃ t, PSs (cxOf CX0 P w K mg base N qual (defScope st) f cdv A outer s H E).nox (defBody st) t ∧ t { nx := fun _ H' => Q .non H', rt := Q } (start N vs) H
abbrev BindsBy (x qual : Str) (st : Stmt) (ps : List Str) : Prop := ∀ (kV doc pm : Value) (an : Option Addr) (cdv ct : Value) (us : List Value), us.length = ps.length → bindArgs (PySem.W.fnOf x qual (defArgs st) (defBody st) (defScope st) .none kV doc pm an cdv ct) ⟨us, []⟩ = pure (ps.zip us)
theorem cal_of {x : Str} {st : Stmt} {f : Addr} {fd : FuncData} {N ps : List Str} {k : Nat} {sp : Sp} (D : DefIn K mg x st f fd) (b : BindsBy x x st ps) (S : FnScope N ps (defScope st)) (len : ∀ vs H Q E, sp vs H Q E → vs.length = ps.length)
    (h : Body P w K mg base N x st f k sp) : Cal P w K mg base (k + 1) x sp := ⟨f, fd, ps, D.fn.ok S len h, D.at_, D.fn.kp, D.fn.binds b⟩
theorem met_of {C : Addr} {x qual : Str} {st : Stmt} {f : Addr} {fd : FuncData} {N ps : List Str} {k : Nat} {sp : Sp} (c : Cls K C) (D : MethIn K C x qual st f fd) (b : BindsBy x qual st ps) (S : FnScope N ps (defScope st)) (len : ∀ vs H Q E, sp vs H Q E → vs.length = ps.length)
    (h : Body P w K mg base N qual st f k sp) : Met P w K mg base (k + 1) C x sp := ⟨f, fd, ps, c, ⟨D.at_, D.is_, D.fn.kp⟩, D.fn.ok S len h, D.fn.binds b⟩
theorem mak_of {C : Addr} {x qual : Str} {st : Stmt} {f : Addr} {fd : FuncData} {N ps : List Str} {k : Nat} {sp : Sp} (hm : mg x = some (.ref C)) (mk : PySem.W.makesIn K C = true) (kc : PySem.W.keepIn K (.ref C) = true) (D : MethIn K C "__init__" qual st f fd) (b : BindsBy "__init__" qual st ps)
    (S : FnScope N ps (defScope st)) (len : ∀ vs H Q E, sp vs H Q E → vs.length = ps.length) (h : Body P w K mg base N qual st f k sp) : Mak P w K mg base (k + 1) x C sp :=
  ⟨f, fd, ps, ⟨mk, D.at_, D.is_, kc⟩, D.fn.ok S len h, hm, D.fn.binds b⟩
theorem prp_of {C p g : Addr} {x qual : Str} {st : Stmt} {fd : FuncData} {N ps : List Str} {k : Nat} {sp : Sp} (c : Cls K C) (pr : PropOf K C x p g) (D : Fun K x qual st g fd) (b : BindsBy x qual st ps) (S : FnScope N ps (defScope st)) (len : ∀ vs H Q E, sp vs H Q E → vs.length = ps.length)
    (h : Body P w K mg base N qual st g k sp) : Prp P w K mg base (k + 1) C x sp := ⟨p, g, fd, ps, c, pr, D.ok S len h, D.binds b⟩
theorem Cal.imp {k : Nat} {x : Str} {sp sp' : Sp} (c : Cal P w K mg base k x sp) (h : ∀ vs H Q E, sp' vs H Q E → sp vs H Q E) : Cal P w K mg base k x sp' := by
  obtain ⟨f, fd, ps, F, r⟩ := c.ex
  exact ⟨f, fd, ps, F.imp h, r⟩
end
section
variable {X : Cx} {k j : Nat} {C : Addr} {x m : Str} {sp : Sp} {p pos apos : Pos} {e o : Expr} {es : List Expr} {ta : TE} {t : TA}
theorem pe_c (c : Cal X.prog X.w X.K X.mg X.base k x sp) (hr : Room j X.A) (hk : k ≤ j) (hg : Gl X x) (ha : PA X (e :: es) t)
    (hdb : (x == ("__debug__" : Str)) = false := by decide) (he : starEach (e :: es) X.env = (false, eval e X.env) :: starEach es X.env := by rfl) (hpl : (backTo pos (starEach es X.env)).any (·.1) = false := by rfl) :
    PE X (.Call (.Name x p) (e :: es) [] pos) (tCall sp [] E0 t) := by
  obtain ⟨f, fd, ps, F, hm, kp, b⟩ := c.ex
  exact pe_call F (hr.mono hk) hg hm kp b .nil pass0 ha hdb he hpl
theorem pe_mk (c : Mak X.prog X.w X.K X.mg X.base k x C sp) (hr : Room j X.A) (hk : k + 1 ≤ j) (hg : Gl X x) (ha : PA X (e :: es) t)
    (hdb : (x == ("__debug__" : Str)) = false := by decide) (he : starEach (e :: es) X.env = (false, eval e X.env) :: starEach es X.env := by rfl) (hpl : (backTo pos (starEach es X.env)).any (·.1) = false := by rfl) :
    PE X (.Call (.Name x p) (e :: es) [] pos) (tMake C sp [] E0 t) := by
  obtain ⟨f, fd, ps, M, F, hm, b⟩ := c.ex
  exact pe_make M F (hr.mono hk) hg hm b .nil pass0 ha hdb he hpl
theorem pe_m {pl : Sem Bool} (c : Met X.prog X.w X.K X.mg X.base k C m sp) (hr : Room j X.A) (hk : k ≤ j) (he : PE X o ta) (ha : PA X (e :: es) t)
    (hst : starEach (e :: es) X.env = (false, eval e X.env) :: starEach es X.env := by rfl) (hpl : (backTo pos (starEach es X.env)).any (·.1) = false := by rfl)
    (ht : eval (.Call (.Attribute o m apos) (e :: es) [] pos) X.env = (do
      let ov ← eval o X.env
      standAt apos.atName
      let (f, first) ← holding [ov] (getMethod ov m pl)
      callWith pos f first (backTo pos (starEach (e :: es) X.env)) (backToKw pos (keywordEach [] X.env))) := by rfl) :
    PE X (.Call (.Attribute o m apos) (e :: es) [] pos) (tMeth C m sp [] E0 ta t) := by
  obtain ⟨f, fd, ps, hc, hm, F, b⟩ := c.ex
  exact pe_meth (pl := pl) he hc hm F (hr.mono hk) b .nil pass0 ha hst hpl ht
theorem pe_m0 {pl : Sem Bool} (c : Met X.prog X.w X.K X.mg X.base k C m sp) (hr : Room j X.A) (hk : k ≤ j) (he : PE X o ta)
    (ht : eval (.Call (.Attribute o m apos) [] [] pos) X.env = (do
      let ov ← eval o X.env
      standAt apos.atName
      let (f, first) ← holding [ov] (getMethod ov m pl)
      callWith pos f first (backTo pos (starEach [] X.env)) (backToKw pos (keywordEach [] X.env))) := by rfl) :
    PE X (.Call (.Attribute o m apos) [] [] pos) (tMeth C m sp [] E0 ta tNil) := by
  obtain ⟨f, fd, ps, hc, hm, F, b⟩ := c.ex
  exact pe_meth0 (pl := pl) he hc hm F (hr.mono hk) b .nil pass0 ht
theorem pe_p (c : Prp X.prog X.w X.K X.mg X.base k C m sp) (hr : Room j X.A) (hk : k + 1 ≤ j) (he : PE X e ta)
    (hab : attributeBase e m X.env (eval e X.env) = eval e X.env := by rfl) : PE X (.Attribute e m pos) (tProp C sp [] E0 ta) := by
  obtain ⟨p, g, fd, ps, hc, hp, F, b⟩ := c.ex
  exact pe_prop he hc hp F (hr.mono hk) b .nil pass0 hab
/-- a name of the module, by its value -/
theorem pe_gc {v : V} (hg : Gl X x) (h : ∃ u, X.mg x = some u ∧ RelV v u) (hd : (x == ("__debug__" : Str)) = false := by decide) : PE X (.Name x pos) (tC v) := by
  obtain ⟨u, hm, r⟩ := h
  exact pe_glob hg hm r hd
/-- a statement, then the rest, with a word between them -/
def tCut (t u : TS) : TS := fun D σ H => ∃ Mid : L2.St → Hp → Prop, t { D with nx := Mid } σ H ∧ ∀ σ' H', Mid σ' H' → u D σ' H'
theorem pss_cut {st : Stmt} {rest : List Stmt} {t u : TS} (h1 : PS X st t) (h2 : PSs X rest u) : PSs X (st :: rest) (tCut t u) := by
  refine ⟨fun pins s σ H D I ⟨Mid, hm, hu⟩ => wpAny_execs_cons (thn (h1.run pins s σ H { D with nx := Mid } I hm) fun f s1 q => ?_)⟩
  cases f with
  | next =>
    obtain ⟨σ', H', I', q⟩ := q
    exact h2.run pins s1 σ' H' D I' (hu σ' H' q)
  | ret v => exact q
  | brk => exact q
  | cont => exact q
end

section
variable {X : Cx} {K : PySem.W.Frag}
theorem ix_tK (h : X.K = K) : IxR X (rIxT K) := h ▸ ix_tup
theorem pg_tK {es : List Expr} {k : Nat} {pos : Pos} {t : TGs} {n : Nat} (h : X.K = K) (hc : X.calm = true) (hg : PGs X es t) (hn : (assignEach es X.env).length = n := by rfl) (hst : (assignEach es X.env).findIdx? (·.1) = none := by rfl) : PG X (.Tuple es k pos) (gTup K n t) := by
  subst h
  exact pg_tup hc hg hn hst
end

/-! ### the facts of the top -/
structure Txt (K : PySem.W.Frag) (mg : Str → Option Value) (C CM CR : Addr) : Prop where
  cl : Cls K C
  clM : Cls K CM
  clR : Cls K CR
  nK : NoAttr K C "_knots"
  nS : NoAttr K C "_streams"
  nNu : NoAttr K CM "number"
  nFl : NoAttr K CM "flows"
  nLe : NoAttr K CM "least"
  nGr : NoAttr K CM "greatest"
  nLo : NoAttr K CR "low"
  nHi : NoAttr K CR "high"
  nLf : NoAttr K CR "low_flows"
  nHf : NoAttr K CR "high_flows"
  nLl : NoAttr K CR "low_lot"
  nHl : NoAttr K CR "high_lot"
  gL : ∃ u, mg "LETTERS" = some u ∧ RelV (.str "abcdefghijklmnopqrstuvwxyz0123456789") u
  gF : ∃ u, mg "MOST_FLOW" = some u ∧ RelV (.int 1000000) u
  gK : ∃ u, mg "MOST_KNOTS" = some u ∧ RelV (.int 24) u
  gS : ∃ u, mg "MOST_STREAMS" = some u ∧ RelV (.int 60) u
  len : mg "len" = none
  sorted : mg "sorted" = none
  set : mg "set" = none
  list : mg "list" = none
  dict : mg "dict" = none
  all : mg "all" = none
  sum : mg "sum" = none
  max : mg "max" = none
  min : mg "min" = none
  abs : mg "abs" = none
  int : mg "int" = none
  range : mg "range" = none

/-! ### heaps -/
theorem same_upd {H : Hp} {p : Addr} {o : HO} (h : H p = none) : Same H (upd H p o) := fun b x e => by
  rw [upd_ne (ne_of_none e h)]
  exact e
/-- all but what stands at a stays -/
def But (a : Addr) (H H' : Hp) : Prop := ∀ b o, b ≠ a → H b = some o → H' b = some o
/-- tuples stay -/
def KeepT (H H' : Hp) : Prop := ∀ b xs, H b = some (.tup xs) → H' b = some (.tup xs)
end Ms
namespace L2
open PySem PySem.Spec PyProof.Rows Ms
/-! what H does not know may change -/
theorem Same.mut {H H' : Hp} {p : Addr} {o : HO} (e : Same H H') (h : H p = none) : Same H (upd H' p o) := fun b x q => by
  rw [upd_ne (ne_of_none q h)]
  exact e _ _ q
theorem Same.rd {H H' : Hp} {a : Addr} {u : HO} (e : Same H H') (h : Rd H a u) : Rd H' a u := h.imp (fun h => e _ _ h) fun ⟨o, h⟩ => ⟨o, e _ _ h⟩
theorem Same.tup {K : PySem.W.Frag} {H H' : Hp} {a : Addr} {xs : List V} (e : Same H H') (h : SqT K H a xs) : SqT K H' a xs := h.imp (fun h => e.rd h) id
theorem Same.but {a : Addr} {H H' : Hp} (e : Same H H') : But a H H' := fun b o _ q => e b o q
theorem Same.keepT {H H' : Hp} (e : Same H H') : KeepT H H' := fun b xs q => e _ _ q
end L2
namespace Ms
open PySem PySem.Spec PyProof.Rows L2
theorem But.refl (a : Addr) (H : Hp) : But a H H := fun _ _ _ e => e
theorem But.trans {a : Addr} {H H1 H2 : Hp} (x : But a H H1) (y : But a H1 H2) : But a H H2 := fun b o n e => y b o n (x b o n e)
theorem But.upd {a : Addr} (H : Hp) (o : HO) : But a H (upd H a o) := fun b x n e => by rw [upd_ne n]; exact e
theorem But.same {a : Addr} {H0 H H' : Hp} (x : Same H0 H) (y : But a H H') (h : H0 a = none) : Same H0 H' := fun b o e => y b o (ne_of_none e h) (x b o e)
theorem But.rd {a b : Addr} {H H' : Hp} {u : HO} (e : But a H H') (n : b ≠ a) (h : Rd H b u) : Rd H' b u := h.imp (fun h => e _ _ n h) fun ⟨o, h⟩ => ⟨o, e _ _ n h⟩
theorem KeepT.trans {H H1 H2 : Hp} (x : KeepT H H1) (y : KeepT H1 H2) : KeepT H H2 := fun b xs q => y _ _ (x _ _ q)
theorem But.keepT {a : Addr} {H H' : Hp} (e : But a H H') (n : ∀ xs, H a ≠ some (.tup xs)) : KeepT H H' := fun b xs q => e b _ (fun z => n xs (z ▸ q)) q
theorem sz_lt {n : Nat} (h : n < 100000) : n < sizeLine := Nat.lt_of_lt_of_le h (by decide)
theorem sz_le {n : Nat} (h : n ≤ 100000) : n ≤ sizeLine := Nat.le_trans h (by decide)
theorem iteB {A B : Prop} {b : Bool} (h1 : b = true → A) (h2 : b = false → B) : if b = true then A else B := by
  cases b with
  | true => exact iteT (h1 rfl)
  | false => exact iteF (h2 rfl)
/-- what a list comprehension's turns keep: H1 ahead of it, D the new list -/
def LcP (H1 : Hp) (D : Addr) (T : Nat → List V → Hp → Prop) (i : Nat) (H : Hp) : Prop := Same H1 H ∧ ∃ acc, H D = some (.lst acc) ∧ T i acc H
theorem LcP.start {H1 : Hp} {D : Addr} {T : Nat → List V → Hp → Prop} (hD : H1 D = none) (h : T 0 [] (upd H1 D (.lst []))) : LcP H1 D T 0 (upd H1 D (.lst [])) := ⟨same_upd hD, [], upd_same, h⟩
theorem LcP.put {H1 H4 : Hp} {D : Addr} {T : Nat → List V → Hp → Prop} {i : Nat} {acc : List V} {y : V} (hD : H1 D = none) (s : Same H1 H4) (h : H4 D = some (.lst acc)) (lt : acc.length < sizeLine) (t : T (i + 1) (acc ++ [y]) (upd H4 D (.lst (acc ++ [y])))) :
    ∃ acc, H4 D = some (.lst acc) ∧ acc.length < sizeLine ∧ LcP H1 D T (i + 1) (upd H4 D (.lst (acc ++ [y]))) := ⟨acc, h, lt, s.mut hD, _, upd_same, t⟩
end Ms
set_option Elab.async false
set_option linter.all false
set_option maxRecDepth 100000
set_option maxHeartbeats 4000000
/-! What the program's things look like in the heap. -/
namespace Ms
open PySem PySem.Spec PyProof.Rows L2
theorem iteD {c A B : Prop} [Decidable c] (hc : c) (h : A) : if decide c = true then A else B := by
  rw [if_pos (decide_eq_true hc)]
  exact h
theorem iteDF {c A B : Prop} [Decidable c] (hc : ¬ c) (h : B) : if decide c = true then A else B := by
  rw [if_neg (by rw [decide_eq_false hc]; exact Bool.false_ne_true)]
  exact h
theorem iteND {c A B : Prop} [Decidable c] (hc : ¬ c) (h : A) : if (!decide c) = true then A else B := by
  rw [decide_eq_false hc]
  exact iteT h
/-! ### dicts by lists of names -/
def kvs (ls : List Str) (g : Str → V) : List (Key × V) := ls.map fun n => (Sum.inr n, g n)
theorem kvs_len (ls : List Str) (g : Str → V) : (kvs ls g).length = ls.length := List.length_map _
theorem val_in {ls : List Str} {g : Str → V} {n : Str} (h : n ∈ ls) : valV (kvs ls g) (Sum.inr n) = some (g n) := by
  induction ls with
  | nil => cases h
  | cons m ls ih =>
    show valV ((Sum.inr m, g m) :: kvs ls g) (Sum.inr n) = _
    by_cases e : m = n
    · subst e
      exact valV_pos rfl
    · rw [valV_neg (fun q => e (Sum.inr.inj q))]
      exact ih ((List.mem_cons.mp h).resolve_left fun q => e q.symm)
theorem val_no {ls : List Str} {g : Str → V} {n : Str} (h : n ∉ ls) : valV (kvs ls g) (Sum.inr n) = none := by
  induction ls with
  | nil => rfl
  | cons m ls ih =>
    show valV ((Sum.inr m, g m) :: kvs ls g) (Sum.inr n) = _
    rw [valV_neg (fun q => h (by rw [Sum.inr.inj q]; exact List.mem_cons_self))]
    exact ih fun q => h (List.mem_cons_of_mem _ q)
theorem val_some {ls : List Str} {g : Str → V} {n : Str} : (valV (kvs ls g) (Sum.inr n)).isSome = decide (n ∈ ls) := by
  by_cases h : n ∈ ls
  · rw [val_in h, decide_eq_true h]
    rfl
  · rw [val_no h, decide_eq_false h]
    rfl
theorem kvs_any {ls : List Str} {g : Str → V} {n : Str} : ((kvs ls g).any fun kv => decide (kv.1 = Sum.inr n)) = decide (n ∈ ls) := by
  rw [valV_any, val_some]
def gset (g : Str → V) (n : Str) (v : V) : Str → V := fun m => if m = n then v else g m
theorem put_in {ls : List Str} {g : Str → V} {n : Str} {v : V} (h : n ∈ ls) : putK (kvs ls g) (Sum.inr n) v = kvs ls (gset g n v) := by
  unfold putK
  rw [kvs_any, if_pos (decide_eq_true h)]
  unfold kvs gset
  rw [List.map_map]
  refine List.map_congr_left fun m _ => ?_
  show (if (Sum.inr m : Key) = Sum.inr n then ((Sum.inr m : Key), v) else (Sum.inr m, g m)) = (Sum.inr m, if m = n then v else g m)
  by_cases e : m = n
  · rw [if_pos (congrArg _ e), if_pos e]
  · rw [if_neg (fun q => e (Sum.inr.inj q)), if_neg e]
theorem put_new {ls : List Str} {g : Str → V} {n : Str} {v : V} (h : n ∉ ls) : putK (kvs ls g) (Sum.inr n) v = kvs (ls ++ [n]) (gset g n v) := by
  unfold putK
  rw [kvs_any, if_neg (by rw [decide_eq_false h]; exact Bool.false_ne_true)]
  unfold kvs gset
  rw [List.map_append]
  congr 1
  · refine List.map_congr_left fun m hm => ?_
    rw [if_neg (fun e => h (by rw [← e]; exact hm))]
  · simp
theorem kvs_congr {ls : List Str} {g h : Str → V} (e : ∀ n ∈ ls, g n = h n) : kvs ls g = kvs ls h := List.map_congr_left fun n hn => by rw [e n hn]
theorem kvs_keys (ls : List Str) (g : Str → V) : (kvs ls g).map (·.1) = ls.map Sum.inr := by
  unfold kvs
  rw [List.map_map]
  rfl
theorem kvs_kV (ls : List Str) (g : Str → V) : ((kvs ls g).map fun kv => kV kv.1) = ls.map V.str := by
  unfold kvs
  rw [List.map_map]
  rfl
theorem kvs_get {ls : List Str} {g : Str → V} {i : Nat} {k : Key} {v : V} (h : (kvs ls g)[i]? = some (k, v)) : ∃ n, ls[i]? = some n ∧ k = Sum.inr n ∧ v = g n := by
  unfold kvs at h
  rw [List.getElem?_map] at h
  cases e : ls[i]? with
  | none =>
    rw [e] at h
    cases h
  | some n =>
    rw [e] at h
    have q := Option.some.inj h
    exact ⟨n, rfl, (congrArg Prod.fst q).symm, (congrArg Prod.snd q).symm⟩
theorem dget {H : Hp} {a : Addr} {ls : List Str} {g : Str → V} {n : Str} (r : Rd H a (.dK (kvs ls g))) (h : n ∈ ls) : DGet H a (.str n) (some (g n)) := .inl ⟨_, Sum.inr n, r, rfl, (val_in h).symm⟩
theorem dgetO {H : Hp} {a : Addr} {ls : List Str} {g : Str → V} {n : Str} (r : Rd H a (.dK (kvs ls g))) : DGet H a (.str n) (valV (kvs ls g) (Sum.inr n)) := .inl ⟨_, Sum.inr n, r, rfl, rfl⟩
theorem dput {H : Hp} {a : Addr} {ls : List Str} {g : Str → V} {n : Str} {v : V} (r : H a = some (.dK (kvs ls g))) (h : n ∈ ls) (hl : ls.length < 1000) : DPut H a (.str n) v (upd H a (.dK (kvs ls (gset g n v)))) := by
  rw [← put_in h]
  exact .inl ⟨_, Sum.inr n, r, rfl, by rw [kvs_len]; exact sz_lt (by omega), rfl⟩
theorem dputN {H : Hp} {a : Addr} {ls : List Str} {g : Str → V} {n : Str} {v : V} (r : H a = some (.dK (kvs ls g))) (h : n ∉ ls) (hl : ls.length < 1000) : DPut H a (.str n) v (upd H a (.dK (kvs (ls ++ [n]) (gset g n v)))) := by
  rw [← put_new h]
  exact .inl ⟨_, Sum.inr n, r, rfl, by rw [kvs_len]; exact sz_lt (by omega), rfl⟩
/-- ints by names -/
def gI (f : Str → Int) : Str → V := fun n => .int (f n)
theorem gI_set (f : Str → Int) (n : Str) (v : Int) : gset (gI f) n (.int v) = gI (fset f n v) := by
  funext m
  unfold gset gI fset
  split <;> rfl

/-! ### plants -/
structure Pl where
  ks : List Str
  ns : List Str
  tl : Str → Str
  hd : Str → Str
  bl : Str → Int
  bh : Str → Int
structure PlOk (p : Pl) : Prop where
  kd : p.ks.Nodup
  nd : p.ns.Nodup
  ends : ∀ n ∈ p.ns, p.tl n ∈ p.ks ∧ p.hd n ∈ p.ks
  kl : p.ks.length ≤ 24
  nl : p.ns.length ≤ 24
def rowV (p : Pl) (n : Str) : List V := [.str n, .str (p.tl n), .str (p.hd n), .int (p.bl n), .int (p.bh n)]
/-- the list of the streams -/
def StrAt (H : Hp) (s : Addr) (p : Pl) : Prop := ∃ t : Str → Addr, H s = some (.lst (p.ns.map fun n => V.ref (t n))) ∧ ∀ n ∈ p.ns, H (t n) = some (.tup (rowV p n))
theorem StrAt.same {H H' : Hp} {s : Addr} {p : Pl} (h : StrAt H s p) (e : Same H H') : StrAt H' s p := by
  obtain ⟨t, a, b⟩ := h
  exact ⟨t, e _ _ a, fun n hn => e _ _ (b n hn)⟩
theorem ks_ : ¬ (("_knots" : Str) = "_streams") := by decide +kernel
def plF (k s : Addr) : List (Str × V) := putF "_streams" (.ref s) (putF "_knots" (.ref k) [])
theorem plF_k (k s : Addr) : (plF k s).lookup ("_knots" : Str) = some (.ref k) := by
  unfold plF
  rw [lookup_putF, if_neg ks_, lookup_putF, if_pos rfl]
theorem plF_s (k s : Addr) : (plF k s).lookup ("_streams" : Str) = some (.ref s) := by
  unfold plF
  rw [lookup_putF, if_pos rfl]
theorem plF_no (k s : Addr) {m : Str} (h1 : ¬ m = "_streams") (h2 : ¬ m = "_knots") : (plF k s).lookup m = none := by
  unfold plF
  rw [lookup_putF, if_neg h1, lookup_putF, if_neg h2]
  all_goals rfl
def PlAt (C : Addr) (H : Hp) (a : Addr) (p : Pl) : Prop := ∃ dx k s, H a = some (.ins C dx (plF k s)) ∧ H k = some (.lst (p.ks.map V.str)) ∧ StrAt H s p
theorem PlAt.same {C : Addr} {H H' : Hp} {a : Addr} {p : Pl} (h : PlAt C H a p) (e : Same H H') : PlAt C H' a p := by
  obtain ⟨dx, k, s, h1, h2, h3⟩ := h
  exact ⟨dx, k, s, e _ _ h1, e _ _ h2, h3.same e⟩
theorem StrAt.but {H H' : Hp} {s b : Addr} {p : Pl} (h : StrAt H s p) (e : But b H H') (n1 : ∀ xs, H b ≠ some (.lst xs)) (n2 : ∀ xs, H b ≠ some (.tup xs)) : StrAt H' s p := by
  obtain ⟨t, x, y⟩ := h
  exact ⟨t, e _ _ (fun z => n1 _ (z ▸ x)) x, fun n hn => e _ _ (fun z => n2 _ (z ▸ y n hn)) (y n hn)⟩
/-- a dict elsewhere may change -/
theorem PlAt.but {C : Addr} {H H' : Hp} {a b : Addr} {p : Pl} {ls : List (Key × V)} (h : PlAt C H a p) (e : But b H H') (hb : H b = some (.dK ls)) : PlAt C H' a p := by
  obtain ⟨dx, k, s, h1, h2, h3⟩ := h
  have n1 : ∀ {c : Addr} {o : HO}, H c = some o → o ≠ .dK ls → c ≠ b := fun {c o} q d z => d (by rw [z, hb] at q; exact (Option.some.inj q).symm)
  exact ⟨dx, k, s, e _ _ (n1 h1 (by intro q; cases q)) h1, e _ _ (n1 h2 (by intro q; cases q)) h2, h3.but e (fun xs q => by rw [hb] at q; cases q) fun xs q => by rw [hb] at q; cases q⟩
/-! ### limits -/
def LimAt (H : Hp) (a : Addr) (ls : List Str) (lo hi : Str → Int) : Prop := ∃ t : Str → Addr, Rd H a (.dK (kvs ls fun n => V.ref (t n))) ∧ ∀ n ∈ ls, H (t n) = some (.tup [.int (lo n), .int (hi n)])
theorem LimAt.same {H H' : Hp} {a : Addr} {ls : List Str} {lo hi : Str → Int} (h : LimAt H a ls lo hi) (e : Same H H') : LimAt H' a ls lo hi := by
  obtain ⟨t, x, y⟩ := h
  exact ⟨t, e.rd x, fun n hn => e _ _ (y n hn)⟩
theorem LimAt.but {H H' : Hp} {a b : Addr} {ls : List Str} {lo hi : Str → Int} {kv : List (Key × V)} (h : LimAt H a ls lo hi) (e : But b H H') (hb : H b = some (.dK kv)) (ne : a ≠ b) : LimAt H' a ls lo hi := by
  obtain ⟨t, x, y⟩ := h
  exact ⟨t, e.rd ne x, fun n hn => e _ _ (fun z => by rw [← z, y n hn] at hb; cases hb) (y n hn)⟩
/-! ### lines, arcs -/
def LinAt (H : Hp) (a : Addr) (ls : List Str) (tl hd : Str → Str) : Prop := ∃ t : Str → Addr, H a = some (.lst (ls.map fun n => V.ref (t n))) ∧ ∀ n ∈ ls, H (t n) = some (.tup [.str n, .str (tl n), .str (hd n)])
theorem LinAt.same {H H' : Hp} {a : Addr} {ls : List Str} {tl hd : Str → Str} (h : LinAt H a ls tl hd) (e : Same H H') : LinAt H' a ls tl hd := by
  obtain ⟨t, x, y⟩ := h
  exact ⟨t, e _ _ x, fun n hn => e _ _ (y n hn)⟩
theorem LinAt.but {H H' : Hp} {a b : Addr} {ls : List Str} {tl hd : Str → Str} {kv : List (Key × V)} (h : LinAt H a ls tl hd) (e : But b H H') (hb : H b = some (.dK kv)) : LinAt H' a ls tl hd := by
  obtain ⟨t, x, y⟩ := h
  exact ⟨t, e _ _ (fun z => by rw [← z, x] at hb; cases hb) x, fun n hn => e _ _ (fun z => by rw [← z, y n hn] at hb; cases hb) (y n hn)⟩
abbrev Ar := Arc Str
def arcV (a : Ar) : List V := [.str a.src, .str a.dst, .str a.nm, .int a.sg, .int a.room]
/-- a list of arcs: zs their tuples -/
def ArcAt (H : Hp) (a : Addr) (zs : List (Addr × Ar)) : Prop := H a = some (.lst (zs.map fun z => V.ref z.1)) ∧ ∀ z ∈ zs, H z.1 = some (.tup (arcV z.2))
theorem ArcAt.same {H H' : Hp} {a : Addr} {zs : List (Addr × Ar)} (h : ArcAt H a zs) (e : Same H H') : ArcAt H' a zs := ⟨e _ _ h.1, fun z hz => e _ _ (h.2 z hz)⟩
end Ms
set_option Elab.async false
set_option linter.all false
set_option maxRecDepth 100000
set_option maxHeartbeats 4000000
/-! Names, streams, plants. -/
namespace Ms
open PySem PySem.Spec PyProof.Rows L2
abbrev signs : Str := "abcdefghijklmnopqrstuvwxyz0123456789"
structure Good (x : Str) : Prop where
  pos : 1 ≤ x.length
  few : x.length ≤ 12
  all : ∀ c ∈ x.cps.toList, c ∈ signs.cps.toList
section
variable {P : Program} {w : World} {K : PySem.W.Frag} {mg : Str → Option Value} {base : Heap} {C CM CR : Addr}
abbrev s_is_name : Stmt := topS 11
abbrev N_is_name : List Str := ["text", "sign"]
theorem sc_is_name : FnScope N_is_name ["text"] (defScope s_is_name) := ⟨rfl, rfl, rfl, by decide +kernel, rfl, by decide +kernel, by decide +kernel⟩
def spName : Sp := fun vs H Q _ => ∃ x : Str, vs = [.str x] ∧ Good x ∧ ∀ H', Same H H' → Q (.bl true) H'
theorem rep_snoc {α : Type} (n : Nat) (x : α) : List.replicate n x ++ [x] = List.replicate (n + 1) x := (List.replicate_succ' ..).symm
theorem all_rep (n : Nat) : (List.replicate n true).all id = true := by simp
theorem ok_is_name (T : Txt K mg C CM CR) {f : Addr} {fd : FuncData} (D : DefIn K mg "is_name" s_is_name f fd) : Cal P w K mg base 1 "is_name" spName := by
  refine cal_of (N := N_is_name) D (ps := ["text"]) (fun _ _ _ _ _ _ us hl => match us, hl with | [_], _ => rfl) sc_is_name (fun vs H Q E h => ?_) (fun cdv A outer s H vs Q E hr h => ?_)
  · obtain ⟨x, rfl, _⟩ := h
    rfl
  have hu := hu_of hr
  obtain ⟨x, rfl, g, q⟩ := h
  refine ⟨_, (pss_one (ps_ret (pe_and (pe_chain op_le op_le pe_int (pe_callB call_len_str (by rfl) T.len (by decide +kernel) (pa_cons (pv 0) pa_nil)) pe_int) (pe_one (pe_callB (cr_all rfl) (by rfl) T.all (by decide +kernel) (pa_cons (pe_lc (own := [("sign", 1)]) (by rfl) sc_is_name.nd (pi_str (pv 0)) (blkOk_by (own := [("sign", 1)]) (N := N_is_name) (sc := defScope s_is_name) (by decide +kernel)) (fun _ _ _ _ _ => (pg_name (i := 1) sc_is_name.nd rfl (by first | exact Or.inl rfl | exact Or.inr rfl))) (fun _ _ _ _ _ => pts_nil) (fun _ _ _ _ _ => (pe_cmpR op_in_sign (pv 1) (pe_gc rfl T.gL) (by with_unfolding_all rfl)))) pa_nil)))))), ?_⟩
  refine ⟨.str x, rfl, x, rfl, sz_le (by have := g.few; omega), 1, x.length, rfl, rfl, _, rfl, iteD (by have := g.pos; omega) ⟨x.length, 12, rfl, rfl, _, rfl, iteD (by have := g.few; omega) ?_⟩⟩
  refine ⟨.str x, rfl, x, rfl, fun D hD => lc_it walk_str (LcP H D fun i acc _ => acc = (List.replicate i true).map V.bl) (LcP.start hD rfl) (fun _ _ _ _ => trivial) ?_ ?_⟩
  · rintro i v H1 H2 hi ⟨s1, acc, ha, rfl⟩ ⟨rfl, c, hc, rfl⟩
    refine ⟨rfl, _, rfl, c, signs, rfl, rfl, ?_⟩
    rw [decide_eq_true (g.all c (by rw [← Array.getElem?_toList] at hc; exact List.mem_of_getElem? hc))]
    refine LcP.put hD s1 ha (sz_lt ?_) ?_
    · rw [List.length_map, List.length_replicate]
      have := g.few
      unfold Str.length at this
      omega
    · show _ ++ [V.bl true] = _
      rw [← List.map_singleton, ← List.map_append, rep_snoc]
  · rintro H1 ⟨s1, acc, ha, rfl⟩
    refine ⟨D, _, rfl, .inl (.inl ha), ?_⟩
    rw [all_rep]
    exact q _ s1

/-! ### are_names -/
abbrev s_are_names : Stmt := topS 12
abbrev N_are_names : List Str := ["texts", "text"]
theorem sc_are_names : FnScope N_are_names ["texts"] (defScope s_are_names) := ⟨rfl, rfl, rfl, by decide +kernel, rfl, by decide +kernel, by decide +kernel⟩
def spNames : Sp := fun vs H Q _ => ∃ (a : Addr) (xs : List Str), vs = [.ref a] ∧ H a = some (.lst (xs.map V.str)) ∧ (∀ x ∈ xs, Good x) ∧ xs.Nodup ∧ xs.length ≤ 24 ∧ ∀ H', Same H H' → Q (.bl true) H'
theorem get_str {xs : List Str} {i : Nat} {v : V} (h : (xs.map V.str)[i]? = some v) : ∃ x, v = .str x ∧ xs[i]? = some x := by
  rw [List.getElem?_map] at h
  cases e : xs[i]? with
  | none =>
    rw [e] at h
    cases h
  | some x =>
    rw [e] at h
    exact ⟨x, (Option.some.inj h).symm, rfl⟩
theorem get_map {α : Type} {xs : List α} {g : α → V} {i : Nat} {v : V} (h : (xs.map g)[i]? = some v) : ∃ x, v = g x ∧ xs[i]? = some x := by
  rw [List.getElem?_map] at h
  cases e : xs[i]? with
  | none =>
    rw [e] at h
    cases h
  | some x =>
    rw [e] at h
    exact ⟨x, (Option.some.inj h).symm, rfl⟩
theorem ok_are_names (T : Txt K mg C CM CR) {f : Addr} {fd : FuncData} (D : DefIn K mg "are_names" s_are_names f fd) (c_is_name : Cal P w K mg base 1 "is_name" spName) : Cal P w K mg base 2 "are_names" spNames := by
  refine cal_of (N := N_are_names) D (ps := ["texts"]) (fun _ _ _ _ _ _ us hl => match us, hl with | [_], _ => rfl) sc_are_names (fun vs H Q E h => ?_) (fun cdv A outer s H vs Q E hr h => ?_)
  · obtain ⟨a, xs, rfl, _⟩ := h
    rfl
  have hu := hu_of hr
  obtain ⟨a, xs, rfl, ha, hg, nd, hl, q⟩ := h
  refine ⟨_, (pss_one (ps_ret (pe_and (pe_callB (cr_all rfl) (by rfl) T.all (by decide +kernel) (pa_cons (pe_lc (own := [("text", 1)]) (by rfl) sc_are_names.nd (pi_list (pv 0)) (blkOk_by (own := [("text", 1)]) (N := N_are_names) (sc := defScope s_are_names) (by decide +kernel)) (fun _ _ _ _ _ => (pg_name (i := 1) sc_are_names.nd rfl (by first | exact Or.inl rfl | exact Or.inr rfl))) (fun _ _ _ _ _ => pts_nil) (fun _ _ _ _ _ => (pe_c c_is_name hr (by decide) (by rfl) (pa_cons (pv 1) pa_nil)))) pa_nil)) (pe_one (pe_cmpR op_eq (pe_callB cr_lenSetS (by rfl) T.len (by decide +kernel) (pa_cons (pe_callTy (cr_setS rfl) (by rfl) T.set (by decide +kernel) (pa_cons (pv 0) pa_nil)) pa_nil)) (pe_callB call_len_seq (by rfl) T.len (by decide +kernel) (pa_cons (pv 0) pa_nil)) (nomark _)))))), ?_⟩
  refine ⟨.ref a, rfl, a, rfl, ⟨_, SqL.of ha⟩, fun D hD => lc_it (walk_list (xs := xs.map V.str)) (LcP H D fun i acc _ => acc = (List.replicate i true).map V.bl) (LcP.start hD rfl) (fun i H1 _ p => SqL.of (p.1 _ _ ha)) ?_ ?_⟩
  · rintro i v H1 H2 hi ⟨s1, acc, hc, rfl⟩ ⟨rfl, hv⟩
    obtain ⟨x, rfl, hx⟩ := get_str hv
    refine ⟨rfl, _, rfl, x, rfl, hg x (List.mem_of_getElem? hx), fun H3 s3 => LcP.put hD (s1.trans s3) (s3 _ _ hc) (sz_lt ?_) ?_⟩
    · rw [List.length_map] at hi
      rw [List.length_map, List.length_replicate]
      omega
    · rw [← rep_snoc, List.map_append]
      rfl
  · rintro H1 ⟨s1, acc, hc, rfl⟩
    refine ⟨D, _, rfl, .inl (.inl hc), ?_⟩
    rw [all_rep]
    have ha1 := s1 _ _ ha
    refine ⟨true, rfl, iteT ⟨.ref a, rfl, a, xs, rfl, SqL.of ha1, by omega, fun p n hp _ hn => ⟨p, _, n, rfl, upd_same, .ref a, rfl, a, _, rfl, .inl (SqL.of (same_upd hp _ _ ha1)), rfl, ?_⟩⟩⟩
    rw [List.length_map, hn nd, decide_eq_true rfl]
    exact q _ (s1.trans (same_upd hp))
/-! ### is_stream -/
abbrev s_is_stream : Stmt := topS 13
abbrev N_is_stream : List Str := ["stream", "knots", "_", "tail", "head", "low", "high"]
theorem sc_is_stream : FnScope N_is_stream ["stream", "knots"] (defScope s_is_stream) := ⟨rfl, rfl, rfl, by decide +kernel, rfl, by decide +kernel, by decide +kernel⟩
theorem in_strs (x : Str) (xs : List Str) : inV (.str x) (xs.map V.str) = decide (x ∈ xs) := by
  unfold inV
  rw [List.any_map]
  induction xs with
  | nil => rfl
  | cons y ys ih =>
    rw [List.any_cons, ih]
    by_cases e : y = x
    · subst e
      simp [eqV]
    · have e' : ¬ x = y := fun z => e z.symm
      simp [eqV, e, e']
theorem flatS (xs : List Str) : (xs.map V.str).all flatV = true := by
  rw [List.all_map]
  exact List.all_eq_true.mpr fun x _ => rfl
def spStream : Sp := fun vs H Q _ => ∃ (t a : Addr) (xs : List Str) (n x y : Str) (l u : Int), vs = [.ref t, .ref a] ∧ H t = some (.tup [.str n, .str x, .str y, .int l, .int u]) ∧ H a = some (.lst (xs.map V.str)) ∧ x ∈ xs ∧ y ∈ xs ∧ 0 ≤ l ∧ l ≤ u ∧ u ≤ 1000000 ∧ Q (.bl true) H
theorem ok_is_stream (T : Txt K mg C CM CR) {f : Addr} {fd : FuncData} (D : DefIn K mg "is_stream" s_is_stream f fd) : Cal P w K mg base 1 "is_stream" spStream := by
  refine cal_of (N := N_is_stream) D (ps := ["stream", "knots"]) (fun _ _ _ _ _ _ us hl => match us, hl with | [_, _], _ => rfl) sc_is_stream (fun vs H Q E h => ?_) (fun cdv A outer s H vs Q E hr h => ?_)
  · obtain ⟨t, a, xs, n, x, y, l, u, rfl, _⟩ := h
    rfl
  have hu := hu_of hr
  obtain ⟨t, a, xs, n, x, y, l, u, rfl, ht, ha, hx, hy, h0, hlu, hM, q⟩ := h
  refine ⟨_, (pss_cons (ps_if (pt_cmpR op_ne (pe_callB call_len_seq (by rfl) T.len (by decide +kernel) (pa_cons (pv 0) pa_nil)) pe_int (nomark _)) (pss_one (ps_ret pe_bl)) pss_nil)
      (pss_cons (ps_asg (pv 0) (pg_tup (by rfl) (pgs_cons (pg_name (i := 2) sc_is_stream.nd rfl (by first | exact Or.inl rfl | exact Or.inr rfl)) (pgs_cons (pg_name (i := 3) sc_is_stream.nd rfl (by first | exact Or.inl rfl | exact Or.inr rfl)) (pgs_cons (pg_name (i := 4) sc_is_stream.nd rfl (by first | exact Or.inl rfl | exact Or.inr rfl)) (pgs_cons (pg_name (i := 5) sc_is_stream.nd rfl (by first | exact Or.inl rfl | exact Or.inr rfl)) (pgs_cons (pg_name (i := 6) sc_is_stream.nd rfl (by first | exact Or.inl rfl | exact Or.inr rfl)) pgs_nil)))))))
      (pss_one (ps_ret (pe_and (pe_cmpR op_in_seq (pv 3) (pv 1) (by with_unfolding_all rfl)) (pe_and (pe_cmpR op_in_seq (pv 4) (pv 1) (by with_unfolding_all rfl)) (pe_one (pe_chain3 op_le op_le op_le pe_int (pv 5) (pv 6) (pe_gc rfl T.gF))))))))), ?_⟩
  refine ⟨.ref t, rfl, t, _, rfl, .inr (SqT.of ht), rfl, _, rfl, iteNS rfl ?_⟩
  refine ⟨.ref t, rfl, t, _, rfl, SqT.of ht, rfl, _, _, rfl, _, _, rfl, _, _, rfl, _, _, rfl, _, _, rfl, rfl, ?_⟩
  refine ⟨_, rfl, .ref a, rfl, a, _, rfl, .inl (SqL.of ha), rfl, flatS xs, true, ?_, iteT ⟨_, rfl, .ref a, rfl, a, _, rfl, .inl (SqL.of ha), rfl, flatS xs, true, ?_, iteT ?_⟩⟩
  · show V.bl (inV (.str x) (xs.map V.str)) = _
    rw [in_strs, decide_eq_true hx]
  · show V.bl (inV (.str y) (xs.map V.str)) = _
    rw [in_strs, decide_eq_true hy]
  · refine ⟨_, rfl, 0, l, rfl, rfl, _, rfl, iteD h0 ⟨_, rfl, l, u, rfl, rfl, _, rfl, iteD hlu ⟨u, 1000000, rfl, rfl, ?_⟩⟩⟩
    show Q (.bl (decide (u ≤ 1000000))) H
    rw [decide_eq_true hM]
    exact q
end
end Ms
set_option Elab.async false
set_option linter.all false
set_option maxRecDepth 100000
set_option maxHeartbeats 4000000
/-! The class Plant. -/
namespace Ms
open PySem PySem.Spec PyProof.Rows L2
section
variable {P : Program} {w : World} {K : PySem.W.Frag} {mg : Str → Option Value} {base : Heap} {C CM CR : Addr}
/-! ### Plant.__init__ -/
abbrev s_Plant___init__ : Stmt := inClass (topS 14) 0
abbrev N_Plant___init__ : List Str := ["self", "knots", "streams", "stream"]
theorem sc_Plant___init__ : FnScope N_Plant___init__ ["self", "knots", "streams"] (defScope s_Plant___init__) := ⟨rfl, rfl, rfl, by decide +kernel, rfl, by decide +kernel, by decide +kernel⟩
/-- the plant with its knots and streams in another order -/
def Pl.order (p : Pl) (ks ns : List Str) : Pl := { p with ks := ks, ns := ns }
structure Fine (p : Pl) : Prop extends PlOk p where
  some : p.ks ≠ []
  gk : ∀ x ∈ p.ks, Good x
  gn : ∀ x ∈ p.ns, Good x
  bd : ∀ n ∈ p.ns, 0 ≤ p.bl n ∧ p.bl n ≤ p.bh n ∧ p.bh n ≤ 1000000
theorem Fine.order {p : Pl} (h : Fine p) {ks ns : List Str} (a : ks.Perm p.ks) (b : ns.Perm p.ns) : Fine (p.order ks ns) where
  kd := a.nodup_iff.mpr h.kd
  nd := b.nodup_iff.mpr h.nd
  ends := fun n hn => ⟨a.mem_iff.mpr (h.ends n (b.mem_iff.mp hn)).1, a.mem_iff.mpr (h.ends n (b.mem_iff.mp hn)).2⟩
  kl := by
    show ks.length ≤ 24
    rw [a.length_eq]
    exact h.kl
  nl := by
    show ns.length ≤ 24
    rw [b.length_eq]
    exact h.nl
  some := fun e => h.some (by
    have : ks = [] := e
    subst this
    exact (List.Perm.nil_eq a).symm)
  gk := fun x hx => h.gk x (a.mem_iff.mp hx)
  gn := fun x hx => h.gn x (b.mem_iff.mp hx)
  bd := fun n hn => h.bd n (b.mem_iff.mp hn)
def spPlant (C : Addr) : Sp := fun vs H Q _ => ∃ (x dx ka sa : Addr) (p : Pl), vs = [.ref x, .ref ka, .ref sa] ∧ H x = some (.ins C dx []) ∧ H ka = some (.lst (p.ks.map V.str)) ∧ StrAt H sa p ∧ Fine p ∧
  ∀ (H' : Hp) (ks ns : List Str), ks.Perm p.ks → ns.Perm p.ns → But x H H' → PlAt C H' x (p.order ks ns) → Q .non H'
def row5 (p : Pl) (t : Str → Addr) (n : Str) : Row5 := ⟨t n, n, p.tl n, p.hd n, p.bl n, p.bh n⟩
theorem rows_back {p : Pl} {t : Str → Addr} {ys : List Row5} (h : ys.Perm (p.ns.map (row5 p t))) : ∃ ns : List Str, ns.Perm p.ns ∧ ys = ns.map (row5 p t) := by
  refine ⟨ys.map (·.nm), ?_, ?_⟩
  · have q := h.map (·.nm)
    rw [List.map_map] at q
    have e : (p.ns.map ((·.nm) ∘ row5 p t)) = p.ns := List.map_id' p.ns
    rw [e] at q
    exact q
  · rw [List.map_map]
    refine (List.map_id' ys).symm.trans (List.map_congr_left fun r hr => ?_)
    obtain ⟨n, hn, e⟩ := List.mem_map.mp (h.mem_iff.mp hr)
    show r = row5 p t r.nm
    rw [← e]
    rfl
theorem ok_init (T : Txt K mg C CM CR) {f : Addr} {fd : FuncData} (hm : mg "Plant" = some (.ref C)) (mk : PySem.W.makesIn K C = true) (kc : PySem.W.keepIn K (.ref C) = true) (D : MethIn K C "__init__" "Plant.__init__" s_Plant___init__ f fd)
    (c_are_names : Cal P w K mg base 2 "are_names" spNames) (c_is_stream : Cal P w K mg base 1 "is_stream" spStream) : Mak P w K mg base 3 "Plant" C (spPlant C) := by
  refine mak_of (N := N_Plant___init__) hm mk kc D (ps := ["self", "knots", "streams"]) (fun _ _ _ _ _ _ us hl => match us, hl with | [_, _, _], _ => rfl) sc_Plant___init__ (fun vs H Q E h => ?_) (fun cdv A outer s H vs Q E hr h => ?_)
  · obtain ⟨x, dx, ka, sa, p, rfl, _⟩ := h
    rfl
  have hu := hu_of hr
  obtain ⟨x, dx, ka, sa, p, rfl, hx, hk, hs, F, q⟩ := h
  obtain ⟨t, hs1, hs2⟩ := id hs
  refine ⟨_, (pss_cons (ps_if (PW.pt (pw_or (pt_not (pt_chain op_le op_le pe_int (pe_callB call_len_seq (by rfl) T.len (by decide +kernel) (pa_cons (pv 1) pa_nil)) (pe_gc rfl T.gK))) (pw_or1 (pt_not (pt_val (pe_c c_are_names hr (by decide) (by rfl) (pa_cons (pv 1) pa_nil))))))) (pss_one ps_never) pss_nil)
      (pss_cons (ps_if (PW.pt (pw_or (pt_cmpR op_gt (pe_callB call_len_seq (by rfl) T.len (by decide +kernel) (pa_cons (pv 2) pa_nil)) (pe_gc rfl T.gS) (nomark _)) (pw_or1 (pt_not (pt_val (pe_callB (cr_all rfl) (by rfl) T.all (by decide +kernel) (pa_cons (pe_lc (own := [("stream", 3)]) (by rfl) sc_Plant___init__.nd (pi_list (pv 2)) (blkOk_by (own := [("stream", 3)]) (N := N_Plant___init__) (sc := defScope s_Plant___init__) (by decide +kernel)) (fun _ _ _ _ _ => (pg_name (i := 3) sc_Plant___init__.nd rfl (by first | exact Or.inl rfl | exact Or.inr rfl))) (fun _ _ _ _ _ => pts_nil) (fun _ _ _ _ _ => (pe_c c_is_stream hr (by decide) (by rfl) (pa_cons (pv 3) (pa_cons (pv 1) pa_nil))))) pa_nil))))))) (pss_one ps_never) pss_nil)
      (pss_cons (ps_if (pt_not (pt_val (pe_c c_are_names hr (by decide) (by rfl) (pa_cons (pe_lc (own := [("stream", 3)]) (by rfl) sc_Plant___init__.nd (pi_list (pv 2)) (blkOk_by (own := [("stream", 3)]) (N := N_Plant___init__) (sc := defScope s_Plant___init__) (by decide +kernel)) (fun _ _ _ _ _ => (pg_name (i := 3) sc_Plant___init__.nd rfl (by first | exact Or.inl rfl | exact Or.inr rfl))) (fun _ _ _ _ _ => pts_nil) (fun _ _ _ _ _ => (pe_ix (ix_tK (K := K) rfl) (pv 3) pe_int (fun _ _ => rfl)))) pa_nil)))) (pss_one ps_never) pss_nil)
      (pss_cons (ps_fld (pv 0) (pe_callB cr_sortedS (by rfl) T.sorted (by decide +kernel) (pa_cons (pv 1) pa_nil)) rfl)
      (pss_one (ps_fld (pv 0) (pe_callB (cr_sort5 hr.units) (by rfl) T.sorted (by decide +kernel) (pa_cons (pv 2) pa_nil)) rfl)))))), ?_⟩
  -- the knots
  have k1 : 1 ≤ (p.ks.map V.str).length := by
    rw [List.length_map]
    exact List.length_pos_iff.mpr F.some
  have k2 : (p.ks.map V.str).length ≤ 24 := by
    rw [List.length_map]
    exact F.kl
  refine ⟨.ref ka, rfl, ka, _, rfl, .inl (SqL.of hk), 1, _, rfl, rfl, _, rfl, iteD (by omega) ⟨_, 24, rfl, rfl, _, rfl, iteNS (by omega) ⟨.ref ka, rfl, ka, p.ks, rfl, hk, F.gk, F.kd, F.kl, fun H1 s1 => ⟨true, rfl, iteF ?_⟩⟩⟩⟩
  -- the streams
  have n2 : (p.ns.map fun n => V.ref (t n)).length ≤ 24 := by
    rw [List.length_map]
    exact F.nl
  refine ⟨.ref sa, rfl, sa, _, rfl, .inl (SqL.of (s1 _ _ hs1)), _, 60, rfl, rfl, _, rfl, iteDF (by omega) ?_⟩
  refine ⟨.ref sa, rfl, sa, rfl, ⟨_, SqL.of (s1 _ _ hs1)⟩, fun D1 hD1 => lc_it (walk_list (xs := p.ns.map fun n => V.ref (t n))) (LcP H1 D1 fun i acc _ => acc = (List.replicate i true).map V.bl) (LcP.start hD1 rfl) (fun i H2 _ z => SqL.of (z.1 _ _ (s1 _ _ hs1))) ?_ ?_⟩
  · rintro i v H2 H3 hi ⟨s2, acc, hc, rfl⟩ ⟨rfl, hv⟩
    obtain ⟨n, rfl, hn⟩ := get_map hv
    have mn := List.mem_of_getElem? hn
    have b := F.bd n mn
    refine ⟨rfl, _, rfl, .ref ka, rfl, t n, ka, p.ks, n, p.tl n, p.hd n, p.bl n, p.bh n, rfl, s2 _ _ (s1 _ _ (hs2 n mn)), s2 _ _ (s1 _ _ hk), (F.ends n mn).1, (F.ends n mn).2, b.1, b.2.1, b.2.2, LcP.put hD1 s2 hc (sz_lt ?_) ?_⟩
    · rw [List.length_map, List.length_replicate]
      omega
    · rw [← rep_snoc, List.map_append]
      rfl
  rintro H2 ⟨s2, acc, hc, rfl⟩
  refine ⟨D1, _, rfl, .inl (.inl hc), ?_⟩
  rw [all_rep]
  refine ⟨true, rfl, iteF ?_⟩
  -- the names
  have s12 := s1.trans s2
  refine ⟨.ref sa, rfl, sa, rfl, ⟨_, SqL.of (s12 _ _ hs1)⟩, fun D2 hD2 => lc_it (walk_list (xs := p.ns.map fun n => V.ref (t n))) (LcP H2 D2 fun i acc _ => acc = (p.ns.take i).map V.str) (LcP.start hD2 rfl) (fun i H3 _ z => SqL.of (z.1 _ _ (s12 _ _ hs1))) ?_ ?_⟩
  · rintro i v H3 H4 hi ⟨s3, acc, hc3, rfl⟩ ⟨rfl, hv⟩
    obtain ⟨n, rfl, hn⟩ := get_map hv
    have mn := List.mem_of_getElem? hn
    refine ⟨rfl, _, rfl, t n, _, 0, .str n, rfl, rfl, SqT.of (s3 _ _ (s12 _ _ (hs2 n mn))), rfl, LcP.put hD2 s3 hc3 (sz_lt ?_) ?_⟩
    · rw [List.length_map, List.length_take]
      rw [List.length_map] at n2
      omega
    · rw [List.take_add_one, hn, List.map_append]
      rfl
  rintro H3 ⟨s3, acc, hc3, rfl⟩
  have s13 := s12.trans s3
  rw [List.length_map, List.take_length] at hc3
  refine ⟨D2, p.ns, rfl, hc3, F.gn, F.nd, F.nl, fun H4 s4 => ⟨true, rfl, iteF ?_⟩⟩
  have s14 := s13.trans s4
  -- self._knots
  refine ⟨.ref ka, rfl, ka, p.ks, rfl, SqL.of (s14 _ _ hk), by have := F.kl; omega, fun ks k pk _ nk => ?_⟩
  have x4 := s14 _ _ hx
  have xk : x ≠ k := ne_of_none x4 nk
  refine ⟨_, rfl, x, C, dx, [], rfl, (by rw [upd_ne xk]; exact x4), T.cl, T.nK, (by show 0 < 1000; decide), ?_⟩
  -- self._streams
  have b5 : But x H4 (upd (upd H4 k (.lst (ks.map V.str))) x (.ins C dx (putF "_knots" (.ref k) []))) := (same_upd nk).but.trans (But.upd _ _)
  have ne : ∀ {c : Addr} {o : HO}, H4 c = some o → o ≠ .ins C dx [] → c ≠ x := fun {c o} e d z => d (by rw [z, x4] at e; exact (Option.some.inj e).symm)
  have sa5 := b5 _ _ (ne (s14 _ _ hs1) (by intro z; cases z)) (s14 _ _ hs1)
  refine ⟨.ref sa, rfl, sa, p.ns.map (row5 p t), rfl, SqL.of (by rw [List.map_map]; exact sa5), fun r hr => ?_, by rw [List.length_map]; have := F.nl; omega, fun ys ss py ns5 => ?_⟩
  · obtain ⟨n, hn, rfl⟩ := List.mem_map.mp hr
    exact SqT.of (b5 _ _ (ne (s14 _ _ (hs2 n hn)) (by intro z; cases z)) (s14 _ _ (hs2 n hn)))
  obtain ⟨ns, pn, rfl⟩ := rows_back py
  have xs : x ≠ ss := ne_of_none upd_same ns5
  refine ⟨_, rfl, x, C, dx, _, rfl, (by rw [upd_ne xs]; exact upd_same), T.cl, T.nS, (by show 1 < 1000; decide), ?_⟩
  refine q _ ks ns pk pn ((s14.but.trans b5).trans ((same_upd ns5).but.trans (But.upd _ _))) ⟨dx, k, ss, upd_same, ?_, fun n => t n, ?_, fun n hn => ?_⟩
  · have ks5 : k ≠ ss := by
      intro z
      rw [← z, upd_ne xk.symm, upd_same] at ns5
      cases ns5
    rw [upd_ne xk.symm, upd_ne ks5, upd_ne xk.symm, upd_same]
    rfl
  · rw [upd_ne xs.symm, upd_same, List.map_map]
    rfl
  · have hn' := pn.mem_iff.mp hn
    have e5 := b5 _ _ (ne (s14 _ _ (hs2 n hn')) (by intro z; cases z)) (s14 _ _ (hs2 n hn'))
    have tx := ne (s14 _ _ (hs2 n hn')) (by intro z; cases z)
    rw [upd_ne tx, upd_ne (ne_of_none e5 ns5)]
    exact e5
/-! ### the properties and methods -/
abbrev s_Plant_knots : Stmt := inClass (topS 14) 1
abbrev N_Plant_knots : List Str := ["self"]
theorem sc_Plant_knots : FnScope N_Plant_knots ["self"] (defScope s_Plant_knots) := ⟨rfl, rfl, rfl, by decide +kernel, rfl, by decide +kernel, by decide +kernel⟩
def spKnots (C : Addr) : Sp := fun vs H Q _ => ∃ (a : Addr) (p : Pl), vs = [.ref a] ∧ PlAt C H a p ∧ ∀ H' r, Same H H' → H r = none → H' r = some (.lst (p.ks.map V.str)) → Q (.ref r) H'
theorem ok_knots (T : Txt K mg C CM CR) {pa g : Addr} {fd : FuncData} (pr : PropOf K C "knots" pa g) (D : Fun K "knots" "Plant.knots" s_Plant_knots g fd) : Prp P w K mg base 1 C "knots" (spKnots C) := by
  refine prp_of (N := N_Plant_knots) T.cl pr D (ps := ["self"]) (fun _ _ _ _ _ _ us hl => match us, hl with | [_], _ => rfl) sc_Plant_knots (fun vs H Q E h => ?_) (fun cdv A outer s H vs Q E hr h => ?_)
  · obtain ⟨a, p, rfl, _⟩ := h
    rfl
  have hu := hu_of hr
  obtain ⟨a, p, rfl, ⟨dx, k, s, h1, h2, h3⟩, q⟩ := h
  refine ⟨_, (pss_one (ps_ret (pe_callTy call_list_of (by rfl) T.list (by decide +kernel) (pa_cons (pe_fld (pv 0) rfl) pa_nil)))), ?_⟩
  exact ⟨.ref a, rfl, a, C, dx, _, _, rfl, h1, T.cl, T.nK, plF_k _ _, k, _, rfl, .inl (SqL.of h2), fun r hr => q _ r (same_upd hr) hr upd_same⟩
abbrev s_Plant_streams : Stmt := inClass (topS 14) 2
abbrev N_Plant_streams : List Str := ["self"]
theorem sc_Plant_streams : FnScope N_Plant_streams ["self"] (defScope s_Plant_streams) := ⟨rfl, rfl, rfl, by decide +kernel, rfl, by decide +kernel, by decide +kernel⟩
def spStreams (C : Addr) : Sp := fun vs H Q _ => ∃ (a : Addr) (p : Pl), vs = [.ref a] ∧ PlAt C H a p ∧ ∀ H' r, Same H H' → H r = none → StrAt H' r p → Q (.ref r) H'
theorem ok_streams (T : Txt K mg C CM CR) {pa g : Addr} {fd : FuncData} (pr : PropOf K C "streams" pa g) (D : Fun K "streams" "Plant.streams" s_Plant_streams g fd) : Prp P w K mg base 1 C "streams" (spStreams C) := by
  refine prp_of (N := N_Plant_streams) T.cl pr D (ps := ["self"]) (fun _ _ _ _ _ _ us hl => match us, hl with | [_], _ => rfl) sc_Plant_streams (fun vs H Q E h => ?_) (fun cdv A outer s H vs Q E hr h => ?_)
  · obtain ⟨a, p, rfl, _⟩ := h
    rfl
  have hu := hu_of hr
  obtain ⟨a, p, rfl, ⟨dx, k, s, h1, h2, t, h3, h4⟩, q⟩ := h
  refine ⟨_, (pss_one (ps_ret (pe_callTy call_list_of (by rfl) T.list (by decide +kernel) (pa_cons (pe_fld (pv 0) rfl) pa_nil)))), ?_⟩
  exact ⟨.ref a, rfl, a, C, dx, _, _, rfl, h1, T.cl, T.nS, plF_s _ _, s, _, rfl, .inl (SqL.of h3), fun r hr => q _ r (same_upd hr) hr ⟨t, upd_same, fun n hn => same_upd hr _ _ (h4 n hn)⟩⟩
abbrev s_Plant_stream_names : Stmt := inClass (topS 14) 3
abbrev N_Plant_stream_names : List Str := ["self", "stream"]
theorem sc_Plant_stream_names : FnScope N_Plant_stream_names ["self"] (defScope s_Plant_stream_names) := ⟨rfl, rfl, rfl, by decide +kernel, rfl, by decide +kernel, by decide +kernel⟩
def spSNames (C : Addr) : Sp := fun vs H Q _ => ∃ (a : Addr) (p : Pl), vs = [.ref a] ∧ PlAt C H a p ∧ PlOk p ∧ ∀ H' r, Same H H' → H r = none → H' r = some (.lst (p.ns.map V.str)) → Q (.ref r) H'
theorem ok_stream_names (T : Txt K mg C CM CR) {f : Addr} {fd : FuncData} (D : MethIn K C "stream_names" "Plant.stream_names" s_Plant_stream_names f fd) : Met P w K mg base 1 C "stream_names" (spSNames C) := by
  refine met_of (N := N_Plant_stream_names) T.cl D (ps := ["self"]) (fun _ _ _ _ _ _ us hl => match us, hl with | [_], _ => rfl) sc_Plant_stream_names (fun vs H Q E h => ?_) (fun cdv A outer s H vs Q E hr h => ?_)
  · obtain ⟨a, p, rfl, _⟩ := h
    rfl
  have hu := hu_of hr
  obtain ⟨a, p, rfl, ⟨dx, k, s, h1, h2, t, h3, h4⟩, F, q⟩ := h
  refine ⟨_, (pss_one (ps_ret (pe_lc (own := [("stream", 1)]) (by rfl) sc_Plant_stream_names.nd (pi_list (pe_fld (pv 0) rfl)) (blkOk_by (own := [("stream", 1)]) (N := N_Plant_stream_names) (sc := defScope s_Plant_stream_names) (by decide +kernel)) (fun _ _ _ _ _ => (pg_name (i := 1) sc_Plant_stream_names.nd rfl (by first | exact Or.inl rfl | exact Or.inr rfl))) (fun _ _ _ _ _ => pts_nil) (fun _ _ _ _ _ => (pe_ix (ix_tK (K := K) rfl) (pv 1) pe_int (fun _ _ => rfl)))))), ?_⟩
  refine ⟨.ref a, rfl, a, C, dx, _, _, rfl, h1, T.cl, T.nS, plF_s _ _, s, rfl, ⟨_, SqL.of h3⟩, fun D2 hD2 => lc_it (walk_list (xs := p.ns.map fun n => V.ref (t n))) (LcP H D2 fun i acc _ => acc = (p.ns.take i).map V.str) (LcP.start hD2 rfl) (fun i H3 _ z => SqL.of (z.1 _ _ h3)) ?_ ?_⟩
  · rintro i v H3 H4 hi ⟨s3, acc, hc3, rfl⟩ ⟨rfl, hv⟩
    obtain ⟨n, rfl, hn⟩ := get_map hv
    have mn := List.mem_of_getElem? hn
    refine ⟨rfl, _, rfl, t n, _, 0, .str n, rfl, rfl, SqT.of (s3 _ _ (h4 n mn)), rfl, LcP.put hD2 s3 hc3 (sz_lt ?_) ?_⟩
    · rw [List.length_map, List.length_take]
      rw [List.length_map] at hi
      have := F.nl
      omega
    · rw [List.take_add_one, hn, List.map_append]
      rfl
  · rintro H3 ⟨s3, acc, hc3, rfl⟩
    rw [List.length_map, List.take_length] at hc3
    exact q _ D2 s3 hD2 hc3
abbrev s_Plant_stream_named : Stmt := inClass (topS 14) 4
abbrev N_Plant_stream_named : List Str := ["self", "name", "stream"]
theorem sc_Plant_stream_named : FnScope N_Plant_stream_named ["self", "name"] (defScope s_Plant_stream_named) := ⟨rfl, rfl, rfl, by decide +kernel, rfl, by decide +kernel, by decide +kernel⟩
def spNamed (C : Addr) : Sp := fun vs H Q _ => ∃ (a : Addr) (p : Pl) (n : Str), vs = [.ref a, .str n] ∧ PlAt C H a p ∧ n ∈ p.ns ∧ ∀ t, H t = some (.tup (rowV p n)) → Q (.ref t) H
theorem ok_stream_named (T : Txt K mg C CM CR) {f : Addr} {fd : FuncData} (D : MethIn K C "stream_named" "Plant.stream_named" s_Plant_stream_named f fd) : Met P w K mg base 1 C "stream_named" (spNamed C) := by
  refine met_of (N := N_Plant_stream_named) T.cl D (ps := ["self", "name"]) (fun _ _ _ _ _ _ us hl => match us, hl with | [_, _], _ => rfl) sc_Plant_stream_named (fun vs H Q E h => ?_) (fun cdv A outer s H vs Q E hr h => ?_)
  · obtain ⟨a, p, n, rfl, _⟩ := h
    rfl
  have hu := hu_of hr
  obtain ⟨a, p, n, rfl, ⟨dx, k, s, h1, h2, t, h3, h4⟩, hn, q⟩ := h
  refine ⟨_, (pss_cons (ps_for PassesOwn.never rfl (pi_list (pe_fld (pv 0) rfl)) (pg_name (i := 2) sc_Plant_stream_named.nd rfl (by first | exact Or.inl rfl | exact Or.inr rfl))
      (pss_one (ps_if (pt_cmpR op_eq (pe_ix ix_tup (pv 2) pe_int (fun _ _ => rfl)) (pv 1) (nomark _)) (pss_one (ps_ret (pv 2))) pss_nil)))
      (pss_one ps_never)), ?_⟩
  refine ⟨.ref a, rfl, a, C, dx, _, _, rfl, h1, T.cl, T.nS, plF_s _ _, s, rfl, ⟨_, SqL.of h3⟩, for_list (K := K) (a := s) (xs := p.ns.map fun n => V.ref (t n)) (fun i σ H' => ∃ y, σ = [some (.ref a), some (.str n), y] ∧ H' = H ∧ n ∉ p.ns.take i)
    ⟨none, rfl, rfl, fun z => nomatch z⟩ (fun i σ H' _ z => by obtain ⟨_, _, rfl, _⟩ := z; exact SqL.of h3) ?_ ?_⟩
  · rintro i v σ H' hv ⟨y, rfl, rfl, nn⟩
    obtain ⟨m, rfl, hm⟩ := get_map hv
    have mm := List.mem_of_getElem? hm
    refine ⟨_, rfl, t m, _, 0, .str m, rfl, rfl, SqT.of (h4 m mm), rfl, .str n, rfl, rfl, _, rfl, ite2 (fun e => ?_) (fun e => ?_)⟩
    · have e' : m = n := V.str.inj (of_decide_eq_true e)
      subst e'
      exact ⟨_, rfl, q _ (h4 m mm)⟩
    · refine ⟨_, rfl, rfl, fun z => ?_⟩
      rw [List.take_add_one, hm] at z
      rcases List.mem_append.mp z with z | z
      · exact nn z
      · have e' : n = m := by simpa using z
        exact e (decide_eq_true (by rw [e']))
  · rintro σ H' ⟨y, rfl, rfl, nn⟩
    rw [List.length_map, List.take_length] at nn
    exact absurd hn nn
end
end Ms
set_option Elab.async false
set_option linter.all false
set_option maxRecDepth 100000
set_option maxHeartbeats 4000000
/-! What knots lack; lines; arcs. -/
namespace Ms
open PySem PySem.Spec PyProof.Rows L2
section
variable {P : Program} {w : World} {K : PySem.W.Frag} {mg : Str → Option Value} {base : Heap} {C CM CR : Addr}
/-! ### check_flows -/
abbrev s_check_flows : Stmt := topS 15
abbrev N_check_flows : List Str := ["plant", "flows", "names", "name"]
theorem sc_check_flows : FnScope N_check_flows ["plant", "flows"] (defScope s_check_flows) := ⟨rfl, rfl, rfl, by decide +kernel, rfl, by decide +kernel, by decide +kernel⟩
def spCheck (C : Addr) : Sp := fun vs H Q _ => ∃ (a fl : Addr) (p : Pl) (ls : List Str) (g : Str → V), vs = [.ref a, .ref fl] ∧ PlAt C H a p ∧ PlOk p ∧ Rd H fl (.dK (kvs ls g)) ∧ ls.Perm p.ns ∧ ∀ H', Same H H' → Q .non H'
theorem plAt_ins {H : Hp} {a : Addr} {p : Pl} (h : PlAt C H a p) : ∃ dx k s, H a = some (.ins C dx (plF k s)) := by
  obtain ⟨dx, k, s, e, _⟩ := h
  exact ⟨dx, k, s, e⟩
theorem no_sn (k s : Addr) : (plF k s).lookup ("stream_names" : Str) = none := plF_no _ _ (by decide +kernel) (by decide +kernel)
theorem no_sd (k s : Addr) : (plF k s).lookup ("stream_named" : Str) = none := plF_no _ _ (by decide +kernel) (by decide +kernel)
theorem ok_check_flows (T : Txt K mg C CM CR) {f : Addr} {fd : FuncData} (D : DefIn K mg "check_flows" s_check_flows f fd) (m_stream_names : Met P w K mg base 1 C "stream_names" (spSNames C)) : Cal P w K mg base 2 "check_flows" (spCheck C) := by
  refine cal_of (N := N_check_flows) D (ps := ["plant", "flows"]) (fun _ _ _ _ _ _ us hl => match us, hl with | [_, _], _ => rfl) sc_check_flows (fun vs H Q E h => ?_) (fun cdv A outer s H vs Q E hr h => ?_)
  · obtain ⟨a, fl, p, ls, g, rfl, _⟩ := h
    rfl
  have hu := hu_of hr
  obtain ⟨a, fl, p, ls, g, rfl, hp, F, rd, pm, q⟩ := h
  obtain ⟨dx, k, s0, e0⟩ := plAt_ins hp
  refine ⟨_, (pss_cons (ps_set (i := 2) sc_check_flows.nd rfl (by first | exact Or.inl rfl | exact Or.inr rfl) (pe_m0 m_stream_names hr (by decide) (pv 0)))
      (pss_one (ps_for PassesOwn.never rfl (pi_list (pe_callB (cr_sortSetS rfl) (by rfl) T.sorted (by decide +kernel) (pa_cons (pe_callTy (cr_setS rfl) (by rfl) T.set (by decide +kernel) (pa_cons (pe_op op_cat (pv 2) (pe_callTy (call_listD rfl) (by rfl) T.list (by decide +kernel) (pa_cons (pv 1) pa_nil))) pa_nil)) pa_nil))) (pg_name (i := 3) sc_check_flows.nd rfl (by first | exact Or.inl rfl | exact Or.inr rfl))
      (pss_one (ps_if (PW.pt (pw_or (pt_cmpR op_notIn_seq (pv 3) (pv 2) (by with_unfolding_all rfl)) (pw_or1 (pt_cmp (pc_dnotin hu (pv 3) (pv 1)))))) (pss_one ps_never) pss_nil))))), ?_⟩
  refine ⟨.ref a, rfl, a, dx, _, rfl, e0, no_sn _ _, a, p, rfl, hp, F, fun H1 l s1 nl hl => ?_⟩
  have l24 : ls.length ≤ 24 := by
    rw [pm.length_eq]
    exact F.nl
  have n24 := F.nl
  refine ⟨.ref l, rfl, .ref fl, rfl, fl, _, rfl, s1.rd rd, fun q1 hq1 => ?_⟩
  rw [kvs_kV]
  refine ⟨l, q1, _, _, rfl, rfl, same_upd hq1 _ _ hl, upd_same, sz_le (by rw [List.length_map, List.length_map]; omega), fun r hr1 => ?_⟩
  rw [← List.map_append]
  refine ⟨r, p.ns ++ ls, rfl, SqL.of upd_same, by rw [List.length_append]; omega, fun u n hu1 hn _ => ⟨u, _, n, rfl, upd_same, by rw [List.length_append] at hn; omega, fun ys v _ hmem hv => ?_⟩⟩
  have sv := (((same_upd hq1).trans (same_upd hr1)).trans (same_upd hu1)).trans (same_upd (o := .lst (ys.map V.str)) hv)
  refine ⟨v, rfl, ⟨_, SqL.of upd_same⟩, for_list (K := K) (a := v) (xs := ys.map V.str) (fun i σ H' => ∃ y, σ = [some (.ref a), some (.ref fl), some (.ref l), y] ∧ Same H1 H' ∧ H' v = some (.lst (ys.map V.str))) ⟨none, rfl, sv, upd_same⟩ (fun i σ H' _ z => by obtain ⟨_, _, _, hv1⟩ := z; exact SqL.of hv1) ?_ ?_⟩
  · rintro i y σ H' hy ⟨z, rfl, s2, hv1⟩
    obtain ⟨x, rfl, hx⟩ := get_str hy
    have mx := (hmem x).mp (List.mem_of_getElem? hx)
    have m1 : x ∈ p.ns := (List.mem_append.mp mx).elim id fun z => pm.mem_iff.mp z
    have m2 : x ∈ ls := pm.mem_iff.mpr m1
    refine ⟨_, rfl, .ref l, rfl, l, _, rfl, .inl (SqL.of (s2 _ _ hl)), rfl, flatS p.ns, false, ?_, iteF ⟨_, rfl, .ref fl, rfl, fl, _, rfl, dget (s2.rd (s1.rd rd)) m2, _, rfl, iteF ⟨_, rfl, s2, hv1⟩⟩⟩
    show V.bl (!inV (.str x) (p.ns.map V.str)) = _
    rw [in_strs, decide_eq_true m1]
    rfl
  · rintro σ H' ⟨z, rfl, s2, hv1⟩
    exact q _ (s1.trans s2)
/-! ### lacks -/
abbrev s_lacks : Stmt := topS 16
abbrev N_lacks : List Str := ["plant", "flows", "found", "name", "tail", "head", "_", "knot"]
theorem sc_lacks : FnScope N_lacks ["plant", "flows"] (defScope s_lacks) := ⟨rfl, rfl, rfl, by decide +kernel, rfl, by decide +kernel, by decide +kernel⟩
def spLacks (C : Addr) : Sp := fun vs H Q _ => ∃ (a fl : Addr) (p : Pl) (ls : List Str) (f : Str → Int), vs = [.ref a, .ref fl] ∧ PlAt C H a p ∧ PlOk p ∧ Rd H fl (.dK (kvs ls (gI f))) ∧ ls.Perm p.ns ∧
  ∀ H' r, Same H H' → H r = none → H' r = some (.dK (kvs p.ks (gI (net p.tl p.hd p.ns f)))) → Q (.ref r) H'
theorem lack_step (tl hd : Str → Str) (ns : List Str) (n : Str) (f : Str → Int) (k : Str) :
    fset (fset (net tl hd ns f) (tl n) (net tl hd ns f (tl n) - f n)) (hd n) (fset (net tl hd ns f) (tl n) (net tl hd ns f (tl n) - f n) (hd n) + f n) k = net tl hd (ns ++ [n]) f k := by
  have e : net tl hd (ns ++ [n]) f k = net tl hd ns f k + ((if hd n = k then f n else 0) - (if tl n = k then f n else 0)) := by
    unfold net
    rw [tot_append, tot_cons, tot_nil]
    omega
  rw [e]
  unfold fset
  by_cases h1 : k = hd n <;> by_cases h2 : k = tl n
  · subst h1
    rw [if_pos rfl, if_pos h2, if_pos rfl, if_pos h2.symm, h2]
    omega
  · subst h1
    rw [if_pos rfl, if_neg h2, if_pos rfl, if_neg (fun z => h2 z.symm)]
    omega
  · subst h2
    rw [if_neg h1, if_pos rfl, if_neg (fun z => h1 z.symm), if_pos rfl]
    omega
  · rw [if_neg h1, if_neg h2, if_neg (fun z => h1 z.symm), if_neg (fun z => h2 z.symm)]
    omega
theorem ok_lacks (T : Txt K mg C CM CR) {f : Addr} {fd : FuncData} (D : DefIn K mg "lacks" s_lacks f fd) (c_check_flows : Cal P w K mg base 2 "check_flows" (spCheck C)) (p_knots : Prp P w K mg base 1 C "knots" (spKnots C)) (p_streams : Prp P w K mg base 1 C "streams" (spStreams C)) :
    Cal P w K mg base 3 "lacks" (spLacks C) := by
  refine cal_of (N := N_lacks) D (ps := ["plant", "flows"]) (fun _ _ _ _ _ _ us hl => match us, hl with | [_, _], _ => rfl) sc_lacks (fun vs H Q E h => ?_) (fun cdv A outer s H vs Q E hr h => ?_)
  · obtain ⟨a, fl, p, ls, f, rfl, _⟩ := h
    rfl
  have hu := hu_of hr
  obtain ⟨a, fl, p, ls, f, rfl, hp, F, rd, pm, q⟩ := h
  refine ⟨_, (pss_cons (ps_expr (pe_c c_check_flows hr (by decide) (by rfl) (pa_cons (pv 0) (pa_cons (pv 1) pa_nil))))
      (pss_cons (ps_setDc (i := 2) (own := [("knot", 7)]) (by rfl) sc_lacks.nd rfl rfl (sw_dict rfl rfl rfl (by decide +kernel)) (pi_list (pe_p p_knots hr (by decide) (pv 0))) (blkOk_by (own := [("knot", 7)]) (N := N_lacks) (sc := defScope s_lacks) (by decide +kernel)) (fun _ _ _ _ _ => (pg_name (i := 7) sc_lacks.nd rfl (by first | exact Or.inl rfl | exact Or.inr rfl))) (fun _ _ _ _ _ => pts_nil) (fun _ _ _ _ _ => (pv 7)) (fun _ _ _ _ _ => pe_int))
      (pss_cons (ps_for PassesOwn.never rfl (pi_list (pe_p p_streams hr (by decide) (pv 0))) (pg_tup (by rfl) (pgs_cons (pg_name (i := 3) sc_lacks.nd rfl (by first | exact Or.inl rfl | exact Or.inr rfl)) (pgs_cons (pg_name (i := 4) sc_lacks.nd rfl (by first | exact Or.inl rfl | exact Or.inr rfl)) (pgs_cons (pg_name (i := 5) sc_lacks.nd rfl (by first | exact Or.inl rfl | exact Or.inr rfl)) (pgs_cons (pg_name (i := 6) sc_lacks.nd rfl (by first | exact Or.inl rfl | exact Or.inr rfl)) (pgs_cons (pg_name (i := 6) sc_lacks.nd rfl (by first | exact Or.inl rfl | exact Or.inr rfl)) pgs_nil))))))
      (pss_cons (ps_daug hu (pv 2) (pv 4) (pe_dget hu (pv 1) (pv 3) (fun _ _ => rfl)) in_sub (fun _ _ _ => rfl))
      (pss_one (ps_daug hu (pv 2) (pv 5) (pe_dget hu (pv 1) (pv 3) (fun _ _ => rfl)) in_add (fun _ _ _ => rfl)))))
      (pss_one (ps_ret (pv 2)))))), ?_⟩
  refine ⟨.ref a, rfl, .ref fl, rfl, a, fl, p, ls, _, rfl, hp, F, rd, pm, fun H1 s1 => ?_⟩
  -- found = {knot: 0 ..}
  have hp1 := hp.same s1
  obtain ⟨dx, k, s0, e1⟩ := plAt_ins hp1
  refine ⟨.ref a, rfl, a, dx, _, rfl, e1, a, p, rfl, hp1, fun H2 r s2 nr hr2 => ⟨r, rfl, ⟨_, SqL.of hr2⟩, fun D hD => ?_⟩⟩
  refine dc_it (walk_list (xs := p.ks.map V.str)) (fun i H' => Same H2 H' ∧ H' D = some (.dK (kvs (p.ks.take i) (gI fun _ => 0)))) ⟨same_upd hD, upd_same⟩ (fun i H' _ z => SqL.of (z.1 _ _ hr2)) ?_ ?_
  · rintro i v H3 H4 hi ⟨s3, h3⟩ ⟨rfl, hv⟩
    obtain ⟨x, rfl, hx⟩ := get_str hv
    have new : x ∉ p.ks.take i := fun z => by
      obtain ⟨j, hj, e⟩ := List.mem_take_iff_getElem.mp z
      have hi2 := (List.getElem?_eq_some_iff.mp hx)
      obtain ⟨hi3, e3⟩ := hi2
      have := (List.getElem_inj F.kd).mp (e.trans e3.symm)
      omega
    refine ⟨rfl, _, rfl, _, Sum.inr x, rfl, h3, sz_lt ?_, s3.mut hD, ?_⟩
    · rw [kvs_len, List.length_take]
      have := F.kl
      omega
    · rw [upd_same, List.take_add_one, hx, put_new new]
      show some (HO.dK (kvs (p.ks.take i ++ [x]) (gset (gI fun _ => 0) x (.int 0)))) = some (HO.dK (kvs (p.ks.take i ++ [x]) (gI fun _ => 0)))
      rw [gI_set]
      congr 2
      refine kvs_congr fun m _ => ?_
      unfold gI fset
      split <;> rfl
  rintro H3 ⟨s3, h3⟩
  rw [List.length_map, List.take_length] at h3
  -- the streams
  have s13 := (s1.trans s2).trans s3
  have nD : H D = none := (s1.trans s2).free hD
  have hp3 := hp.same s13
  obtain ⟨dx3, k3, s03, e3⟩ := plAt_ins hp3
  refine ⟨.ref a, rfl, a, dx3, _, rfl, e3, a, p, rfl, hp3, fun H4 r4 s4 nr4 ⟨t, hr4, ht4⟩ => ⟨r4, rfl, ⟨_, SqL.of hr4⟩, ?_⟩⟩
  have s14 := s13.trans s4
  have rd4 := s14.rd rd
  have hD4 := s4 _ _ h3
  have nfl : fl ≠ D := fun z => by
    rw [z] at rd
    rcases rd with e | ⟨o, e⟩ <;> (rw [nD] at e; cases e)
  refine for_list (K := K) (a := r4) (xs := p.ns.map fun n => V.ref (t n)) (fun i σ H' => ∃ y1 y2 y3 y4 y5, σ = [some (.ref a), some (.ref fl), some (.ref D), y1, y2, y3, y4, y5] ∧ But D H4 H' ∧ H' D = some (.dK (kvs p.ks (gI (net p.tl p.hd (p.ns.take i) f)))))
    ⟨none, none, none, none, none, rfl, But.refl _ _, hD4⟩ (fun i σ H' _ z => ?_) ?_ ?_
  · obtain ⟨_, _, _, _, _, _, b, _⟩ := z
    exact SqL.of (b _ _ (fun z => by rw [z, hD4] at hr4; cases hr4) hr4)
  · rintro i v σ H5 hv ⟨y1, y2, y3, y4, y5, rfl, b5, h5⟩
    obtain ⟨n, rfl, hn⟩ := get_map hv
    have mn := List.mem_of_getElem? hn
    have tn := ht4 n mn
    have tn5 := b5 _ _ (fun z => by rw [z, hD4] at tn; cases tn) tn
    refine ⟨t n, _, rfl, SqT.of tn5, rfl, _, _, rfl, _, _, rfl, _, _, rfl, _, _, rfl, _, _, rfl, rfl, ?_⟩
    have mt := (F.ends n mn).1
    have mh := (F.ends n mn).2
    have ml := pm.mem_iff.mpr mn
    have kl : p.ks.length < 1000 := by have := F.kl; omega
    refine ⟨.ref D, rfl, .str (p.tl n), rfl, D, _, rfl, dget (Rd.of h5) mt, .ref fl, rfl, .str n, rfl, fl, _, rfl, dget (b5.rd nfl rd4) ml, _, _, rfl, rfl, _, dput h5 mt kl, ?_⟩
    rw [gI_set]
    refine ⟨.ref D, rfl, .str (p.hd n), rfl, D, _, rfl, dget (Rd.of upd_same) mh, .ref fl, rfl, .str n, rfl, fl, _, rfl, dget ((b5.trans (But.upd _ _)).rd nfl rd4) ml, _, _, rfl, rfl, _, dput upd_same mh kl, ?_⟩
    rw [gI_set, upd_upd]
    refine ⟨_, _, _, _, _, rfl, b5.trans (But.upd _ _), ?_⟩
    rw [upd_same, List.take_add_one, hn]
    exact congrArg (fun z => some (HO.dK z)) (kvs_congr fun k _ => congrArg V.int (lack_step p.tl p.hd (p.ns.take i) n f k))
  · rintro σ H5 ⟨y1, y2, y3, y4, y5, rfl, b5, h5⟩
    rw [List.length_map, List.take_length] at h5
    exact ⟨_, rfl, q _ D (But.same s14 b5 nD) nD h5⟩
/-! ### lists of new tuples by names -/
theorem tab_grow {row : Str → List V} {H : Hp} {D q : Addr} {done : List Str} {t : Str → Addr} {n : Str} (o : HO) (hD : ∃ xs, H D = some (.lst xs)) (h : ∀ m ∈ done, H (t m) = some (.tup (row m))) (hn : n ∉ done) (hq : H q = none) :
    ∃ t' : Str → Addr, done.map (fun m => V.ref (t m)) ++ [V.ref q] = (done ++ [n]).map (fun m => V.ref (t' m)) ∧ ∀ m ∈ done ++ [n], upd (upd H q (.tup (row n))) D o (t' m) = some (.tup (row m)) := by
  obtain ⟨xs, hD⟩ := hD
  have qD : q ≠ D := (ne_of_none hD hq).symm
  refine ⟨fun m => if m = n then q else t m, ?_, fun m hm => ?_⟩
  · rw [List.map_append]
    congr 1
    · refine List.map_congr_left fun m hm => ?_
      show V.ref (t m) = V.ref (if m = n then q else t m)
      rw [if_neg (fun e => hn (by rw [← e]; exact hm))]
    · show [V.ref q] = [V.ref (if n = n then q else t n)]
      rw [if_pos rfl]
  · by_cases e : m = n
    · subst e
      show upd (upd H q (.tup (row m))) D o (if m = m then q else t m) = _
      rw [if_pos rfl, upd_ne qD, upd_same]
    · have hm' : m ∈ done := (List.mem_append.mp hm).elim id fun z => absurd (by simpa using z) e
      show upd (upd H q (.tup (row n))) D o (if m = n then q else t m) = _
      have ht := h m hm'
      rw [if_neg e, upd_ne (fun z => by rw [z, hD] at ht; cases ht), upd_ne (ne_of_none ht hq)]
      exact ht
theorem take_new {ns : List Str} (nd : ns.Nodup) {i : Nat} {n : Str} (h : ns[i]? = some n) : n ∉ ns.take i := fun z => by
  obtain ⟨j, hj, e⟩ := List.mem_take_iff_getElem.mp z
  obtain ⟨hi3, e3⟩ := List.getElem?_eq_some_iff.mp h
  have := (List.getElem_inj nd).mp (e.trans e3.symm)
  omega
/-! ### lines_of -/
abbrev s_lines_of : Stmt := topS 18
abbrev N_lines_of : List Str := ["plant", "name", "tail", "head", "_"]
theorem sc_lines_of : FnScope N_lines_of ["plant"] (defScope s_lines_of) := ⟨rfl, rfl, rfl, by decide +kernel, rfl, by decide +kernel, by decide +kernel⟩
/-- the streams that join two knots -/
def Pl.lin (p : Pl) : List Str := p.ns.filter fun n => decide (p.tl n ≠ p.hd n)
def spLines (C : Addr) : Sp := fun vs H Q _ => ∃ (a : Addr) (p : Pl), vs = [.ref a] ∧ PlAt C H a p ∧ PlOk p ∧ ∀ H' r, Same H H' → H r = none → LinAt H' r p.lin p.tl p.hd → Q (.ref r) H'
theorem ok_lines_of (T : Txt K mg C CM CR) {f : Addr} {fd : FuncData} (D : DefIn K mg "lines_of" s_lines_of f fd) (p_streams : Prp P w K mg base 1 C "streams" (spStreams C)) : Cal P w K mg base 3 "lines_of" (spLines C) := by
  refine cal_of (N := N_lines_of) D (ps := ["plant"]) (fun _ _ _ _ _ _ us hl => match us, hl with | [_], _ => rfl) sc_lines_of (fun vs H Q E h => ?_) (fun cdv A outer s H vs Q E hr h => ?_)
  · obtain ⟨a, p, rfl, _⟩ := h
    rfl
  have hu := hu_of hr
  obtain ⟨a, p, rfl, hp, F, q⟩ := h
  obtain ⟨dx, k, s0, e0⟩ := plAt_ins hp
  refine ⟨_, (pss_one (ps_ret (pe_lc (own := [("name", 1), ("tail", 2), ("head", 3), ("_", 4)]) (by rfl) sc_lines_of.nd (pi_list (pe_p p_streams hr (by decide) (pv 0))) (blkOk_by (own := [("name", 1), ("tail", 2), ("head", 3), ("_", 4)]) (N := N_lines_of) (sc := defScope s_lines_of) (by decide +kernel)) (fun _ _ _ _ _ => (pg_tK (K := K) (n := 5) rfl rfl (pgs_cons (pg_name (i := 1) sc_lines_of.nd rfl (by first | exact Or.inl rfl | exact Or.inr rfl)) (pgs_cons (pg_name (i := 2) sc_lines_of.nd rfl (by first | exact Or.inl rfl | exact Or.inr rfl)) (pgs_cons (pg_name (i := 3) sc_lines_of.nd rfl (by first | exact Or.inl rfl | exact Or.inr rfl)) (pgs_cons (pg_name (i := 4) sc_lines_of.nd rfl (by first | exact Or.inl rfl | exact Or.inr rfl)) (pgs_cons (pg_name (i := 4) sc_lines_of.nd rfl (by first | exact Or.inl rfl | exact Or.inr rfl)) pgs_nil))))))) (fun _ _ _ _ _ => (pts_one (pt_cmpR op_ne (pv 2) (pv 3) (nomark _)))) (fun _ _ _ _ _ => (pe_tup (pa_cons (pv 1) (pa_cons (pv 2) (pa_cons (pv 3) pa_nil)))))))), ?_⟩
  refine ⟨.ref a, rfl, a, dx, _, rfl, e0, a, p, rfl, hp, fun H1 r s1 nr ⟨t, hr1, ht1⟩ => ⟨r, rfl, ⟨_, SqL.of hr1⟩, fun D hD => ?_⟩⟩
  let fi : Nat → List Str := fun i => (p.ns.take i).filter fun n => decide (p.tl n ≠ p.hd n)
  refine lc_it (walk_list (xs := p.ns.map fun n => V.ref (t n))) (LcP H1 D fun i acc H' => ∃ u : Str → Addr, acc = (fi i).map (fun n => V.ref (u n)) ∧ ∀ n ∈ fi i, H' (u n) = some (.tup [.str n, .str (p.tl n), .str (p.hd n)]))
    (LcP.start hD ⟨fun _ => 0, rfl, fun n hn => nomatch hn⟩) (fun i H' _ z => SqL.of (z.1 _ _ hr1)) ?_ ?_
  · rintro i v H2 H3 hi ⟨s2, acc, hc, u, rfl, hu2⟩ ⟨rfl, hv⟩
    obtain ⟨n, rfl, hn⟩ := get_map hv
    have mn := List.mem_of_getElem? hn
    have tn := s2 _ _ (ht1 n mn)
    have ef : fi (i + 1) = fi i ++ (if decide (p.tl n ≠ p.hd n) = true then [n] else []) := by
      show (p.ns.take (i + 1)).filter _ = _
      rw [List.take_add_one, hn, List.filter_append]
      congr 1
      show List.filter _ [n] = _
      rw [List.filter_cons]
      split <;> rfl
    refine ⟨t n, _, rfl, SqT.of tn, rfl, _, _, rfl, _, _, rfl, _, _, rfl, _, _, rfl, _, _, rfl, rfl, rfl, ?_⟩
    refine ⟨_, rfl, _, rfl, rfl, _, rfl, ?_⟩
    by_cases e : p.tl n = p.hd n
    · have e1 : (!decide (V.str (p.tl n) = V.str (p.hd n))) = false := by rw [e, decide_eq_true rfl]; rfl
      rw [e1]
      refine iteF ⟨s2, _, hc, u, ?_, ?_⟩
      · rw [ef, if_neg (by simp [e]), List.append_nil]
      · rw [ef, if_neg (by simp [e]), List.append_nil]
        exact hu2
    · have e1 : (!decide (V.str (p.tl n) = V.str (p.hd n))) = true := by rw [decide_eq_false (fun z => e (V.str.inj z))]; rfl
      rw [e1]
      refine iteT ⟨_, rfl, _, rfl, _, rfl, by show 3 ≤ sizeLine; decide, fun q2 hq2 => LcP.put hD (s2.trans (same_upd hq2)) (same_upd hq2 _ _ hc) (sz_lt ?_) ?_⟩
      · rw [List.length_map]
        have h1 := List.length_filter_le (fun n => decide (p.tl n ≠ p.hd n)) (p.ns.take i)
        have h2 : (p.ns.take i).length ≤ p.ns.length := List.length_take_le' i p.ns
        have h3 := F.nl
        show (fi i).length < 100000
        have h4 : (fi i).length ≤ (p.ns.take i).length := h1
        omega
      · have nn : n ∉ fi i := fun z => take_new F.nd hn (List.mem_filter.mp z).1
        obtain ⟨t', x1, x2⟩ := tab_grow (row := fun n => [.str n, .str (p.tl n), .str (p.hd n)]) (.lst ((fi i).map (fun n => V.ref (u n)) ++ [V.ref q2])) ⟨_, hc⟩ hu2 nn hq2
        have e2 : fi (i + 1) = fi i ++ [n] := by rw [ef, if_pos (by simp [e])]
        exact ⟨t', by rw [e2]; exact x1, by rw [e2]; exact x2⟩
  · rintro H2 ⟨s2, acc, hc, u, rfl, hu2⟩
    have ef : fi (p.ns.map fun n => V.ref (t n)).length = p.lin := by
      show (p.ns.take _).filter _ = _
      rw [List.length_map, List.take_length]
      rfl
    rw [ef] at hc hu2
    exact q _ D (s1.trans s2) (s1.free hD) ⟨u, hc, hu2⟩
/-! ### arcs_of -/
abbrev s_arcs_of : Stmt := topS 19
abbrev N_arcs_of : List Str := ["lines", "limits", "flows", "found", "name", "tail", "head", "low", "high"]
theorem sc_arcs_of : FnScope N_arcs_of ["lines", "limits", "flows"] (defScope s_arcs_of) := ⟨rfl, rfl, rfl, by decide +kernel, rfl, by decide +kernel, by decide +kernel⟩
def spArcs : Sp := fun vs H Q _ => ∃ (la li fl : Addr) (ls lm lf : List Str) (tl hd : Str → Str) (lo hi f : Str → Int), vs = [.ref la, .ref li, .ref fl] ∧ LinAt H la ls tl hd ∧ LimAt H li lm lo hi ∧ Rd H fl (.dK (kvs lf (gI f))) ∧
  (∀ n ∈ ls, n ∈ lm ∧ n ∈ lf) ∧ ls.length ≤ 24 ∧ ∀ H' r zs, Same H H' → H r = none → ArcAt H' r zs → zs.map (·.2) = arcsOf tl hd lo hi f ls → Q (.ref r) H'
theorem arc_grow {H : Hp} {F q : Addr} {zs : List (Addr × Ar)} (a : Ar) (h : ArcAt H F zs) (hq : H q = none) : ArcAt (upd (upd H q (.tup (arcV a))) F (.lst ((zs.map fun z => V.ref z.1) ++ [V.ref q]))) F (zs ++ [(q, a)]) := by
  have qF : q ≠ F := (ne_of_none h.1 hq).symm
  refine ⟨by rw [upd_same, List.map_append]; rfl, fun z hz => ?_⟩
  rcases List.mem_append.mp hz with m | m
  · have e := h.2 z m
    rw [upd_ne (fun x => by rw [x, h.1] at e; cases e), upd_ne (ne_of_none e hq)]
    exact e
  · have e : z = (q, a) := by simpa using m
    subst e
    show upd (upd H q (.tup (arcV a))) F _ q = _
    rw [upd_ne qF, upd_same]
theorem arcs_len (tl hd : Str → Str) (lo hi f : Str → Int) : ∀ ls : List Str, (arcsOf tl hd lo hi f ls).length ≤ 2 * ls.length
  | [] => Nat.le_refl _
  | n :: ls => by
    have h := arcs_len tl hd lo hi f ls
    unfold arcsOf at h ⊢
    rw [List.flatMap_cons, List.length_append, List.length_cons]
    have : (arcsAt tl hd lo hi f n).length ≤ 2 := by
      unfold arcsAt
      rw [List.length_append]
      split <;> split <;> simp
    omega
theorem ok_arcs_of (T : Txt K mg C CM CR) {f : Addr} {fd : FuncData} (D : DefIn K mg "arcs_of" s_arcs_of f fd) : Cal P w K mg base 1 "arcs_of" spArcs := by
  refine cal_of (N := N_arcs_of) D (ps := ["lines", "limits", "flows"]) (fun _ _ _ _ _ _ us hl => match us, hl with | [_, _, _], _ => rfl) sc_arcs_of (fun vs H Q E h => ?_) (fun cdv A outer s H vs Q E hr h => ?_)
  · obtain ⟨la, li, fl, ls, lm, lf, tl, hd, lo, hi, f, rfl, _⟩ := h
    rfl
  have hu := hu_of hr
  obtain ⟨la, li, fl, ls, lm, lf, tl, hd, lo, hi, f, rfl, ⟨t, hl1, hl2⟩, ⟨u, hm1, hm2⟩, rd, hin, l24, q⟩ := h
  refine ⟨_, (pss_cons (ps_set (i := 3) sc_arcs_of.nd rfl (by first | exact Or.inl rfl | exact Or.inr rfl) (pe_lst pa_nil))
      (pss_cons (ps_for PassesOwn.never rfl (pi_list (pv 0)) (pg_tup (by rfl) (pgs_cons (pg_name (i := 4) sc_arcs_of.nd rfl (by first | exact Or.inl rfl | exact Or.inr rfl)) (pgs_cons (pg_name (i := 5) sc_arcs_of.nd rfl (by first | exact Or.inl rfl | exact Or.inr rfl)) (pgs_cons (pg_name (i := 6) sc_arcs_of.nd rfl (by first | exact Or.inl rfl | exact Or.inr rfl)) pgs_nil))))
      (pss_cons (ps_asg (pe_dget hu (pv 1) (pv 4) (fun _ _ => rfl)) (pg_tup (by rfl) (pgs_cons (pg_name (i := 7) sc_arcs_of.nd rfl (by first | exact Or.inl rfl | exact Or.inr rfl)) (pgs_cons (pg_name (i := 8) sc_arcs_of.nd rfl (by first | exact Or.inl rfl | exact Or.inr rfl)) pgs_nil))))
      (pss_cons (ps_if (pt_cmpR op_lt (pe_dget hu (pv 2) (pv 4) (fun _ _ => rfl)) (pv 8) (nomark _)) (pss_one (ps_expr (pe_bm PySem.F.plainAttrs_list PySem.F.slot_list_append PySem.F.type_list_append mt_append (pv 3) (pa_cons (pe_tup (pa_cons (pv 5) (pa_cons (pv 6) (pa_cons (pv 4) (pa_cons pe_int (pa_cons (pe_op op_sub (pv 8) (pe_dget hu (pv 2) (pv 4) (fun _ _ => rfl))) pa_nil)))))) pa_nil)))) pss_nil)
      (pss_one (ps_if (pt_cmpR op_gt (pe_dget hu (pv 2) (pv 4) (fun _ _ => rfl)) (pv 7) (nomark _)) (pss_one (ps_expr (pe_bm PySem.F.plainAttrs_list PySem.F.slot_list_append PySem.F.type_list_append mt_append (pv 3) (pa_cons (pe_tup (pa_cons (pv 6) (pa_cons (pv 5) (pa_cons (pv 4) (pa_cons (pe_un un_neg pe_int) (pa_cons (pe_op op_sub (pe_dget hu (pv 2) (pv 4) (fun _ _ => rfl)) (pv 7)) pa_nil)))))) pa_nil)))) pss_nil)))))
      (pss_one (ps_ret (pv 3))))), ?_⟩
  refine ⟨Nat.zero_le _, fun F hF => ?_⟩
  have s0 := same_upd (o := .lst []) hF
  refine ⟨.ref la, rfl, la, rfl, ⟨_, SqL.of (s0 _ _ hl1)⟩, for_list (K := K) (a := la) (xs := ls.map fun n => V.ref (t n)) (fun i σ H' => ∃ y1 y2 y3 y4 y5 zs, σ = [some (.ref la), some (.ref li), some (.ref fl), some (.ref F), y1, y2, y3, y4, y5] ∧ Same H H' ∧ ArcAt H' F zs ∧ zs.map (·.2) = arcsOf tl hd lo hi f (ls.take i))
    ⟨none, none, none, none, none, [], rfl, s0, ⟨upd_same, fun z hz => nomatch hz⟩, rfl⟩ (fun i σ H' _ z => ?_) ?_ ?_⟩
  · obtain ⟨_, _, _, _, _, _, _, s1, _⟩ := z
    exact SqL.of (s1 _ _ hl1)
  · rintro i v σ H1 hv ⟨y1, y2, y3, y4, y5, zs, rfl, s1, ha, hz⟩
    obtain ⟨n, rfl, hn⟩ := get_map hv
    have mn := List.mem_of_getElem? hn
    obtain ⟨mm, mf⟩ := hin n mn
    have il : i < ls.length := (List.getElem?_eq_some_iff.mp hn).1
    have zl : zs.length ≤ 48 := by
      have a1 := arcs_len tl hd lo hi f (ls.take i)
      rw [← hz, List.length_map, List.length_take] at a1
      omega
    refine ⟨t n, _, rfl, SqT.of (s1 _ _ (hl2 n mn)), rfl, _, _, rfl, _, _, rfl, _, _, rfl, rfl, ?_⟩
    refine ⟨.ref li, rfl, .str n, rfl, li, _, rfl, dget (s1.rd hm1) mm, u n, _, rfl, SqT.of (s1 _ _ (hm2 n mm)), rfl, _, _, rfl, _, _, rfl, rfl, ?_⟩
    refine ⟨.ref fl, rfl, .str n, rfl, fl, _, rfl, dget (s1.rd rd) mf, .int (hi n), rfl, f n, hi n, rfl, rfl, _, rfl, ?_⟩
    -- the arc along the stream
    have fin : ∀ (H2 : Hp) (zs2 : List (Addr × Ar)), Same H H2 → ArcAt H2 F zs2 → zs2.length ≤ 49 → zs2.map (·.2) = arcsOf tl hd lo hi f (ls.take i) ++ (if f n < hi n then [⟨tl n, hd n, n, 1, hi n - f n⟩] else []) →
        (∀ (H3 : Hp) (zs3 : List (Addr × Ar)), Same H H3 → ArcAt H3 F zs3 → zs3.map (·.2) = arcsOf tl hd lo hi f (ls.take i) ++ arcsAt tl hd lo hi f n → ∃ y1 y2 y3 y4 y5 zs, [some (V.ref la), some (.ref li), some (.ref fl), some (.ref F), some (.str n), some (.str (tl n)), some (.str (hd n)), some (.int (lo n)), some (.int (hi n))] = [some (V.ref la), some (.ref li), some (.ref fl), some (.ref F), y1, y2, y3, y4, y5] ∧ Same H H3 ∧ ArcAt H3 F zs ∧ zs.map (·.2) = arcsOf tl hd lo hi f (ls.take (i + 1))) := fun H2 zs2 s2 a2 l2 e2 H3 zs3 s3 a3 e3 =>
      ⟨_, _, _, _, _, zs3, rfl, s3, a3, by rw [e3]; unfold arcsOf; rw [List.take_add_one, hn, List.flatMap_append]; simp⟩
    have snd : ∀ (H2 : Hp) (zs2 : List (Addr × Ar)), Same H H2 → ArcAt H2 F zs2 → zs2.length ≤ 49 → zs2.map (·.2) = arcsOf tl hd lo hi f (ls.take i) ++ (if f n < hi n then [⟨tl n, hd n, n, 1, hi n - f n⟩] else []) → ∀ {q2 : Addr}, H2 q2 = none → f n > lo n →
        ArcAt (upd (upd H2 q2 (.tup (arcV ⟨hd n, tl n, n, -1, f n - lo n⟩))) F (.lst ((zs2.map fun z => V.ref z.1) ++ [V.ref q2]))) F (zs2 ++ [(q2, ⟨hd n, tl n, n, -1, f n - lo n⟩)]) ∧ (zs2 ++ [(q2, (⟨hd n, tl n, n, -1, f n - lo n⟩ : Ar))]).map (·.2) = arcsOf tl hd lo hi f (ls.take i) ++ arcsAt tl hd lo hi f n := fun H2 zs2 s2 a2 l2 e2 {q2} h2 g => by
      refine ⟨arc_grow _ a2 h2, ?_⟩
      rw [List.map_append, e2]
      unfold arcsAt
      rw [if_pos g, List.append_assoc]
      rfl
    by_cases c1 : f n < hi n
    · refine iteD c1 ?_
      refine ⟨.ref F, rfl, .inl ⟨rfl, _, SqL.of ha.1⟩, _, rfl, _, rfl, _, rfl, .int (hi n), rfl, .ref fl, rfl, .str n, rfl, fl, _, rfl, dget (s1.rd rd) mf, hi n, f n, rfl, rfl, by show 5 ≤ sizeLine; decide, fun q1 hq1 => ?_⟩
      have s1q := s1.trans (same_upd (o := .tup (arcV ⟨tl n, hd n, n, 1, hi n - f n⟩)) hq1)
      refine ⟨F, _, _, rfl, rfl, same_upd hq1 _ _ ha.1, sz_lt (by rw [List.length_map]; omega), ?_⟩
      have a2 := arc_grow ⟨tl n, hd n, n, 1, hi n - f n⟩ ha hq1
      have s2 := s1q.mut (o := .lst ((zs.map fun z => V.ref z.1) ++ [V.ref q1])) hF
      have e2 : (zs ++ [(q1, (⟨tl n, hd n, n, 1, hi n - f n⟩ : Ar))]).map (·.2) = arcsOf tl hd lo hi f (ls.take i) ++ (if f n < hi n then [⟨tl n, hd n, n, 1, hi n - f n⟩] else []) := by
        rw [List.map_append, hz, if_pos c1]
        rfl
      have l2 : (zs ++ [(q1, (⟨tl n, hd n, n, 1, hi n - f n⟩ : Ar))]).length ≤ 49 := by
        rw [List.length_append]
        show zs.length + 1 ≤ 49
        omega
      refine ⟨.ref fl, rfl, .str n, rfl, fl, _, rfl, dget (s2.rd rd) mf, .int (lo n), rfl, f n, lo n, rfl, rfl, _, rfl, ?_⟩
      by_cases c2 : lo n < f n
      · refine iteD c2 ?_
        refine ⟨.ref F, rfl, .inl ⟨rfl, _, SqL.of a2.1⟩, _, rfl, _, rfl, _, rfl, 1, rfl, .ref fl, rfl, .str n, rfl, fl, _, rfl, dget (s2.rd rd) mf, .int (lo n), rfl, f n, lo n, rfl, rfl, by show 5 ≤ sizeLine; decide, fun q2 hq2 => ?_⟩
        obtain ⟨a3, e3⟩ := snd _ _ s2 a2 l2 e2 hq2 c2
        refine ⟨F, _, _, rfl, rfl, same_upd hq2 _ _ a2.1, sz_lt (by rw [List.length_map]; omega), ?_⟩
        exact fin _ _ s2 a2 l2 e2 _ _ ((s2.trans (same_upd hq2)).mut hF) a3 e3
      · refine iteDF c2 ?_
        refine fin _ _ s2 a2 l2 e2 _ _ s2 a2 ?_
        rw [e2]
        unfold arcsAt
        rw [if_neg (show ¬ f n > lo n from c2), List.append_nil]
    · refine iteDF c1 ?_
      have e2 : zs.map (·.2) = arcsOf tl hd lo hi f (ls.take i) ++ (if f n < hi n then [⟨tl n, hd n, n, 1, hi n - f n⟩] else []) := by
        rw [hz, if_neg c1, List.append_nil]
      refine ⟨.ref fl, rfl, .str n, rfl, fl, _, rfl, dget (s1.rd rd) mf, .int (lo n), rfl, f n, lo n, rfl, rfl, _, rfl, ?_⟩
      by_cases c2 : lo n < f n
      · refine iteD c2 ?_
        refine ⟨.ref F, rfl, .inl ⟨rfl, _, SqL.of ha.1⟩, _, rfl, _, rfl, _, rfl, 1, rfl, .ref fl, rfl, .str n, rfl, fl, _, rfl, dget (s1.rd rd) mf, .int (lo n), rfl, f n, lo n, rfl, rfl, by show 5 ≤ sizeLine; decide, fun q2 hq2 => ?_⟩
        obtain ⟨a3, e3⟩ := snd _ _ s1 ha (by omega) e2 hq2 c2
        refine ⟨F, _, _, rfl, rfl, same_upd hq2 _ _ ha.1, sz_lt (by rw [List.length_map]; omega), ?_⟩
        exact fin _ _ s1 ha (by omega) e2 _ _ ((s1.trans (same_upd hq2)).mut hF) a3 e3
      · refine iteDF c2 ?_
        refine fin _ _ s1 ha (by omega) e2 _ _ s1 ha ?_
        rw [e2]
        unfold arcsAt
        rw [if_neg (show ¬ f n > lo n from c2), List.append_nil]
  · rintro σ H1 ⟨y1, y2, y3, y4, y5, zs, rfl, s1, ha, hz⟩
    rw [List.length_map, List.take_length] at hz
    exact ⟨_, rfl, q _ F zs s1 hF ha hz⟩
end
end Ms
set_option Elab.async false
set_option linter.all false
set_option maxRecDepth 100000
set_option maxHeartbeats 4000000
/-! The search for a way. -/
namespace Ms
open PySem PySem.Spec PyProof.Rows L2
theorem nodup_len {α : Type} [DecidableEq α] : ∀ (l m : List α), l.Nodup → (∀ x ∈ l, x ∈ m) → l.length ≤ m.length
  | [], m, _, _ => Nat.zero_le _
  | x :: l, m, nd, h => by
    obtain ⟨n1, n2⟩ := List.nodup_cons.mp nd
    have hx := h x List.mem_cons_self
    have a := nodup_len l (m.erase x) n2 fun y hy => (List.mem_erase_of_ne (fun e => n1 (by rw [← e]; exact hy))).mpr (h y (List.mem_cons_of_mem _ hy))
    have b := List.length_erase_of_mem hx
    have c : 0 < m.length := List.length_pos_of_mem hx
    rw [List.length_cons]
    omega
theorem nodup_ix {α : Type} {l : List α} (nd : l.Nodup) {i j : Nat} {x : α} (hi : l[i]? = some x) (hj : l[j]? = some x) : i = j := by
  obtain ⟨a, ea⟩ := List.getElem?_eq_some_iff.mp hi
  obtain ⟨b, eb⟩ := List.getElem?_eq_some_iff.mp hj
  exact (List.getElem_inj nd).mp (ea.trans eb.symm)
abbrev Az := Addr × Ar
def bset (bk : Str → Option Az) (n : Str) (z : Az) : Str → Option Az := fun m => if m = n then some z else bk m
def bkV (bk : Str → Option Az) : Str → V := fun n => match bk n with | none => .non | some z => .ref z.1
theorem bkV_set (bk : Str → Option Az) (n : Str) (z : Az) : gset (bkV bk) n (.ref z.1) = bkV (bset bk n z) := by
  funext m
  unfold gset bkV bset
  split <;> rfl
/-- what the search has found: the places in order, and what lies behind each -/
structure Fnd (zs : List Az) (ss W : List Str) (bk : Str → Option Az) : Prop where
  nd : W.Nodup
  st : ∀ n ∈ W, bk n = none → n ∈ ss
  ar : ∀ (i : Nat) (n : Str) (z : Az), W[i]? = some n → bk n = some z → z ∈ zs ∧ z.2.dst = n ∧ ∃ j, j < i ∧ W[j]? = some z.2.src
theorem Fnd.start {zs : List Az} {ss : List Str} (nd : ss.Nodup) : Fnd zs ss ss fun _ => none := ⟨nd, fun n h _ => h, fun i n z _ h => nomatch h⟩
theorem Fnd.grow {zs : List Az} {ss W : List Str} {bk : Str → Option Az} (F : Fnd zs ss W bk) {z : Az} (hz : z ∈ zs) {j : Nat} (hj : W[j]? = some z.2.src) (hn : z.2.dst ∉ W) : Fnd zs ss (W ++ [z.2.dst]) (bset bk z.2.dst z) where
  nd := List.nodup_append.mpr ⟨F.nd, by simp, fun x hx y hy e => hn (by rw [← List.mem_singleton.mp hy, ← e]; exact hx)⟩
  st := fun n hm e => by
    unfold bset at e
    by_cases c : n = z.2.dst
    · rw [if_pos c] at e
      cases e
    · rw [if_neg c] at e
      exact F.st n ((List.mem_append.mp hm).elim id fun q => absurd (List.mem_singleton.mp q) c) e
  ar := fun i n y hi e => by
    unfold bset at e
    obtain ⟨lj, _⟩ := List.getElem?_eq_some_iff.mp hj
    by_cases c : n = z.2.dst
    · rw [if_pos c] at e
      cases e
      refine ⟨hz, c.symm, j, ?_, by rw [List.getElem?_append_left lj]; exact hj⟩
      rcases Nat.lt_or_ge i W.length with q | q
      · rw [List.getElem?_append_left q] at hi
        exact absurd (by rw [← c]; exact List.mem_of_getElem? hi) hn
      · omega
    · rw [if_neg c] at e
      have q : i < W.length := by
        rcases Nat.lt_or_ge i W.length with q | q
        · exact q
        · rw [List.getElem?_append_right q] at hi
          exact absurd (List.mem_singleton.mp (List.mem_of_getElem? hi)) c
      rw [List.getElem?_append_left q] at hi
      obtain ⟨a, b, k, lk, hk⟩ := F.ar i n y hi e
      exact ⟨a, b, k, lk, by rw [List.getElem?_append_left (by omega)]; exact hk⟩
theorem Fnd.len {zs : List Az} {ss W : List Str} {bk : Str → Option Az} (F : Fnd zs ss W bk) : W.length ≤ ss.length + zs.length := by
  have a := nodup_len W (ss ++ zs.map (·.2.dst)) F.nd fun n hn => by
    cases e : bk n with
    | none => exact List.mem_append_left _ (F.st n hn e)
    | some z =>
      obtain ⟨i, hi⟩ := List.getElem?_of_mem hn
      obtain ⟨b, c, _⟩ := F.ar i n z hi e
      exact List.mem_append_right _ (List.mem_map.mpr ⟨z, b, c⟩)
  rw [List.length_append, List.length_map] at a
  exact a
/-- on the way back: at the place W[j], with the arcs ws from there to the end -/
structure Bck (zs : List Az) (W : List Str) (e : Str) (j : Nat) (p : Str) (ws : List Az) : Prop where
  at_ : W[j]? = some p
  sub : ∀ z ∈ ws, z ∈ zs
  path : IsPath (fun a => a ∈ zs.map (·.2)) p (ws.map (·.2)) e
  nd : ((ws.map (·.2)).map (·.dst)).Nodup
  late : ∀ z ∈ ws, ∃ k, j < k ∧ W[k]? = some z.2.dst
theorem Bck.simple {zs : List Az} {W : List Str} {e p : Str} {j : Nat} {ws : List Az} (B : Bck zs W e j p ws) (nd : W.Nodup) : Simple p (ws.map (·.2)) := by
  unfold Simple
  refine List.nodup_cons.mpr ⟨fun h => ?_, B.nd⟩
  rw [List.map_map] at h
  obtain ⟨z, hz, ez⟩ := List.mem_map.mp h
  obtain ⟨k, lk, hk⟩ := B.late z hz
  have ez' : z.2.dst = p := ez
  have := nodup_ix nd B.at_ (by rw [← ez']; exact hk)
  omega
theorem Bck.step {zs : List Az} {W ss : List Str} {bk : Str → Option Az} {e p : Str} {j : Nat} {ws : List Az} (F : Fnd zs ss W bk) (B : Bck zs W e j p ws) {z : Az} (h : bk p = some z) : ∃ j', j' < j ∧ Bck zs W e j' z.2.src (z :: ws) := by
  obtain ⟨a, b, k, lk, hk⟩ := F.ar j p z B.at_ h
  refine ⟨k, lk, hk, fun y hy => ?_, ⟨rfl, List.mem_map.mpr ⟨z, a, rfl⟩, by rw [b]; exact B.path⟩, ?_, fun y hy => ?_⟩
  · rcases List.mem_cons.mp hy with q | q
    · rw [q]
      exact a
    · exact B.sub y q
  · have s := B.simple F.nd
    unfold Simple at s
    rw [List.map_cons, List.map_cons, b]
    exact s
  · rcases List.mem_cons.mp hy with q | q
    · rw [q, b]
      exact ⟨j, lk, B.at_⟩
    · obtain ⟨k', l', h'⟩ := B.late y q
      exact ⟨k', by omega, h'⟩
section
variable {P : Program} {w : World} {K : PySem.W.Frag} {mg : Str → Option Value} {base : Heap} {C CM CR : Addr}
/-! ### way_back -/
abbrev s_way_back : Stmt := topS 21
abbrev N_way_back : List Str := ["before", "place", "way"]
theorem sc_way_back : FnScope N_way_back ["before", "place"] (defScope s_way_back) := ⟨rfl, rfl, rfl, by decide +kernel, rfl, by decide +kernel, by decide +kernel⟩
def spBack : Sp := fun vs H Q _ => ∃ (bf : Addr) (zs : List Az) (ss W : List Str) (bk : Str → Option Az) (i : Nat) (p : Str), vs = [.ref bf, .str p] ∧ H bf = some (.dK (kvs W (bkV bk))) ∧ Fnd zs ss W bk ∧ W[i]? = some p ∧
  (∀ z ∈ zs, H z.1 = some (.tup (arcV z.2))) ∧ W.length ≤ 100 ∧ ∀ H' r ws s, Same H H' → H r = none → ArcAt H' r ws → (∀ z ∈ ws, z ∈ zs) → s ∈ ss → IsPath (fun a => a ∈ zs.map (·.2)) s (ws.map (·.2)) p → Simple s (ws.map (·.2)) → ws.length ≤ 100 → Q (.ref r) H'
theorem ok_way_back (T : Txt K mg C CM CR) {f : Addr} {fd : FuncData} (D : DefIn K mg "way_back" s_way_back f fd) : Cal P w K mg base 1 "way_back" spBack := by
  refine cal_of (N := N_way_back) D (ps := ["before", "place"]) (fun _ _ _ _ _ _ us hl => match us, hl with | [_, _], _ => rfl) sc_way_back (fun vs H Q E h => ?_) (fun cdv A outer s H vs Q E hr h => ?_)
  · obtain ⟨bf, zs, ss, W, bk, i, p, rfl, _⟩ := h
    rfl
  have hu := hu_of hr
  obtain ⟨bf, zs, ss, W, bk, i, p, rfl, hb, F, hi, hz, hl, q⟩ := h
  refine ⟨_, (pss_cons (ps_set (i := 2) sc_way_back.nd rfl (by first | exact Or.inl rfl | exact Or.inr rfl) (pe_lst pa_nil))
      (pss_cons (ps_while PassesOwn.never (pt_cmpR op_notN (pe_dget hu (pv 0) (pv 1) (fun _ _ => rfl)) pe_non (nomark _))
      (pss_cons (ps_expr (pe_bm PySem.F.plainAttrs_list PySem.F.slot_list_append PySem.F.type_list_append mt_append (pv 2) (pa_cons (pe_dget hu (pv 0) (pv 1) (fun _ _ => rfl)) pa_nil)))
      (pss_one (ps_set (i := 1) sc_way_back.nd rfl (by first | exact Or.inl rfl | exact Or.inr rfl) (pe_ix ix_tup (pe_dget hu (pv 0) (pv 1) (fun _ _ => rfl)) pe_int (fun _ _ => rfl))))))
      (pss_one (ps_ret (pe_revL (pv 2)))))), ?_⟩
  refine ⟨Nat.zero_le _, fun wy hw => ?_⟩
  have s0 := same_upd (o := .lst []) hw
  refine ⟨fun j σ H' => ∃ p' ws, σ = [some (.ref bf), some (.str p'), some (.ref wy)] ∧ Same H H' ∧ H' wy = some (.lst (ws.reverse.map fun z : Az => V.ref z.1)) ∧ Bck zs W p j p' ws ∧ ws.length + j ≤ W.length, ⟨i, p, [], rfl, s0, upd_same, ⟨hi, fun z h => (nomatch h), rfl, List.nodup_nil, fun z h => (nomatch h)⟩, ?_⟩, ?_⟩
  · have := (List.getElem?_eq_some_iff.mp hi).1
    show 0 + i ≤ W.length
    omega
  rintro j σ H1 ⟨p', ws, rfl, s1, hw1, B, lw⟩
  have mp : p' ∈ W := List.mem_of_getElem? B.at_
  have lj : j < W.length := (List.getElem?_eq_some_iff.mp B.at_).1
  have rb := s1.rd (Rd.of hb)
  refine ⟨.ref bf, rfl, .str p', rfl, bf, _, rfl, dget rb mp, rfl, _, rfl, ?_⟩
  cases e : bk p' with
  | none =>
    have ev : bkV bk p' = .non := by
      unfold bkV
      rw [e]
    rw [ev]
    refine iteF ?_
    refine ⟨.ref wy, rfl, wy, _, rfl, SqL.of hw1, fun r hr1 => q _ r ws p' (s1.trans (same_upd hr1)) (s1.free hr1) ⟨?_, fun z h => ?_⟩ B.sub (F.st _ mp e) B.path (B.simple F.nd) (by omega)⟩
    · rw [upd_same, ← List.map_reverse, List.reverse_reverse]
    · exact same_upd hr1 _ _ (s1 _ _ (hz z (B.sub z h)))
  | some z =>
    have ev : bkV bk p' = .ref z.1 := by
      unfold bkV
      rw [e]
    rw [ev]
    obtain ⟨hzz, _⟩ := F.ar j p' z B.at_ e
    have tz := hz z hzz
    have d1 : ∀ Hx, Rd Hx bf (.dK (kvs W (bkV bk))) → DGet Hx bf (.str p') (some (.ref z.1)) := fun Hx r => by
      rw [← ev]
      exact dget r mp
    refine iteT ⟨fun σ' H' => ∃ j', j' < j ∧ ∃ p' ws, σ' = [some (.ref bf), some (.str p'), some (.ref wy)] ∧ Same H H' ∧ H' wy = some (.lst (ws.reverse.map fun z : Az => V.ref z.1)) ∧ Bck zs W p j' p' ws ∧ ws.length + j' ≤ W.length, fun σ' H' h => h, ?_⟩
    refine ⟨.ref wy, rfl, .inl ⟨rfl, _, SqL.of hw1⟩, .ref bf, rfl, .str p', rfl, bf, _, rfl, d1 _ rb, wy, _, _, rfl, rfl, hw1, sz_lt (by rw [List.length_map, List.length_reverse]; omega), ?_⟩
    have s2 := s1.mut (o := .lst (ws.reverse.map (fun z : Az => V.ref z.1) ++ [V.ref z.1])) hw
    refine ⟨.ref bf, rfl, .str p', rfl, bf, _, rfl, d1 _ (s2.rd (Rd.of hb)), z.1, _, 0, .str z.2.src, rfl, rfl, SqT.of (s2 _ _ tz), rfl, ?_⟩
    obtain ⟨j', lj', B'⟩ := B.step F e
    refine ⟨j', lj', z.2.src, z :: ws, rfl, s2, ?_, B', ?_⟩
    · rw [upd_same, List.reverse_cons, List.map_append]
      rfl
    · rw [List.length_cons]
      omega
/-! ### way_between -/
abbrev s_way_between : Stmt := topS 20
abbrev N_way_between : List Str := ["arcs", "starts", "ends", "leaving", "arc", "before", "waiting", "at", "place"]
theorem sc_way_between : FnScope N_way_between ["arcs", "starts", "ends"] (defScope s_way_between) := ⟨rfl, rfl, rfl, by decide +kernel, rfl, by decide +kernel, by decide +kernel⟩
def srcs (zs : List Az) (n : Str) : List Az := zs.filter fun z => decide (z.2.src = n)
theorem srcs_snoc (zs : List Az) (z : Az) (n : Str) : srcs (zs ++ [z]) n = srcs zs n ++ (if z.2.src = n then [z] else []) := by
  unfold srcs
  rw [List.filter_append]
  congr 1
  rw [List.filter_cons]
  by_cases e : z.2.src = n
  · rw [if_pos (decide_eq_true e), if_pos e]
    rfl
  · rw [if_neg (by rw [decide_eq_false e]; exact Bool.false_ne_true), if_neg e]
    rfl
structure LvAt (H0 H : Hp) (lv : Addr) (zs : List Az) (Ls : List Str) (l : Str → Addr) : Prop where
  dict : H lv = some (.dK (kvs Ls fun n => V.ref (l n)))
  lists : ∀ n ∈ Ls, H (l n) = some (.lst ((srcs zs n).map fun z => V.ref z.1)) ∧ H0 (l n) = none
  inj : ∀ n ∈ Ls, ∀ m ∈ Ls, l n = l m → n = m
  all : ∀ z ∈ zs, z.2.src ∈ Ls
  few : Ls.length ≤ zs.length
theorem LvAt.old {H0 H : Hp} {lv q : Addr} {zs : List Az} {Ls : List Str} {l : Str → Addr} (L : LvAt H0 H lv zs Ls l) (hq : H q = none) {z : Az} (hz : z.2.src ∈ Ls) (o : HO) :
    LvAt H0 (upd (upd H q o) (l z.2.src) (.lst ((srcs zs z.2.src).map (fun z => V.ref z.1) ++ [V.ref z.1]))) lv (zs ++ [z]) Ls l where
  dict := by
    have e := (L.lists _ hz).1
    rw [upd_ne (fun x => by rw [← x, L.dict] at e; cases e), upd_ne (ne_of_none L.dict hq)]
    exact L.dict
  lists := fun n hn => by
    refine ⟨?_, (L.lists n hn).2⟩
    rw [srcs_snoc]
    by_cases c : n = z.2.src
    · subst c
      rw [upd_same, if_pos rfl, List.map_append]
      rfl
    · rw [upd_ne (fun x => c (L.inj n hn _ hz x)), upd_ne (ne_of_none (L.lists n hn).1 hq), if_neg (fun x => c x.symm), List.append_nil]
      exact (L.lists n hn).1
  inj := L.inj
  all := fun y hy => (List.mem_append.mp hy).elim (L.all y) fun x => by rw [List.mem_singleton.mp x]; exact hz
  few := by
    have := L.few
    rw [List.length_append]
    show Ls.length ≤ zs.length + 1
    omega
theorem LvAt.new {H0 H : Hp} {lv q : Addr} {zs : List Az} {Ls : List Str} {l : Str → Addr} (L : LvAt H0 H lv zs Ls l) (hq : H q = none) (h0 : H0 q = none) {z : Az} (hz : z.2.src ∉ Ls) :
    LvAt H0 (upd (upd (upd H q (.lst [])) lv (.dK (kvs (Ls ++ [z.2.src]) (gset (fun n => V.ref (l n)) z.2.src (.ref q))))) q (.lst ([] ++ [V.ref z.1]))) lv (zs ++ [z]) (Ls ++ [z.2.src]) (fun m => if m = z.2.src then q else l m) where
  dict := by
    rw [upd_ne (ne_of_none L.dict hq), upd_same]
    refine congrArg (fun x => some (HO.dK x)) (kvs_congr fun m _ => ?_)
    unfold gset
    show (if m = z.2.src then V.ref q else V.ref (l m)) = V.ref (if m = z.2.src then q else l m)
    split <;> rfl
  lists := fun n hn => by
    show upd _ q _ (if n = z.2.src then q else l n) = _ ∧ H0 (if n = z.2.src then q else l n) = none
    rw [srcs_snoc]
    by_cases c : n = z.2.src
    · have em : srcs zs n = [] := List.filter_eq_nil_iff.mpr fun y hy h => hz (by rw [← c, ← of_decide_eq_true h]; exact L.all y hy)
      rw [if_pos c, if_pos c.symm, em, upd_same]
      exact ⟨rfl, h0⟩
    · have hn' : n ∈ Ls := (List.mem_append.mp hn).elim id fun x => absurd (List.mem_singleton.mp x) c
      have e := (L.lists n hn').1
      rw [if_neg c, if_neg (fun x => c x.symm), List.append_nil, upd_ne (ne_of_none e hq), upd_ne (fun x => by rw [x, L.dict] at e; cases e), upd_ne (ne_of_none e hq)]
      exact L.lists n hn'
  inj := fun n hn m hm e => by
    have e : (if n = z.2.src then q else l n) = (if m = z.2.src then q else l m) := e
    have old : ∀ k ∈ Ls ++ [z.2.src], k ≠ z.2.src → k ∈ Ls := fun k hk c => (List.mem_append.mp hk).elim id fun x => absurd (List.mem_singleton.mp x) c
    by_cases c : n = z.2.src
    · by_cases d : m = z.2.src
      · rw [c, d]
      · rw [if_pos c, if_neg d] at e
        have := (L.lists m (old m hm d)).1
        rw [← e, hq] at this
        cases this
    · by_cases d : m = z.2.src
      · rw [if_neg c, if_pos d] at e
        have := (L.lists n (old n hn c)).1
        rw [e, hq] at this
        cases this
      · rw [if_neg c, if_neg d] at e
        exact L.inj n (old n hn c) m (old m hm d) e
  all := fun y hy => (List.mem_append.mp hy).elim (fun x => List.mem_append_left _ (L.all y x)) fun x => by rw [List.mem_singleton.mp x]; exact List.mem_append_right _ (List.mem_singleton.mpr rfl)
  few := by
    have := L.few
    rw [List.length_append, List.length_append]
    show Ls.length + 1 ≤ zs.length + 1
    omega
/-- the first k places are done -/
def Done (zs : List Az) (es W : List Str) (k : Nat) : Prop := ∀ (i : Nat) (n : Str), i < k → W[i]? = some n → n ∉ es ∧ ∀ z ∈ zs, z.2.src = n → z.2.dst ∈ W
theorem Done.grow {zs : List Az} {es W : List Str} {k : Nat} (D : Done zs es W k) (hk : k ≤ W.length) (d : Str) : Done zs es (W ++ [d]) k := fun i n hi h => by
  rw [List.getElem?_append_left (by omega)] at h
  exact ⟨(D i n hi h).1, fun z hz e => List.mem_append_left _ ((D i n hi h).2 z hz e)⟩
def spWay : Sp := fun vs H Q _ => ∃ (la sa ea : Addr) (zs : List Az) (ss es : List Str), vs = [.ref la, .ref sa, .ref ea] ∧ ArcAt H la zs ∧ H sa = some (.lst (ss.map V.str)) ∧ H ea = some (.lst (es.map V.str)) ∧ ss.Nodup ∧ ss.length ≤ 24 ∧ zs.length ≤ 50 ∧
  (∀ H' (S : Str → Bool), Same H H' → (∀ a ∈ zs.map (·.2), S a.src = true → S a.dst = true) → (∀ s ∈ ss, S s = true) → (∀ e ∈ es, S e = false) → Q .non H') ∧
  ∀ H' r ws s e, Same H H' → H r = none → ArcAt H' r ws → (∀ z ∈ ws, z ∈ zs) → s ∈ ss → e ∈ es → IsPath (fun a => a ∈ zs.map (·.2)) s (ws.map (·.2)) e → Simple s (ws.map (·.2)) → ws.length ≤ 100 → Q (.ref r) H'
theorem ok_way_between (T : Txt K mg C CM CR) {f : Addr} {fd : FuncData} (D : DefIn K mg "way_between" s_way_between f fd) (c_way_back : Cal P w K mg base 1 "way_back" spBack) : Cal P w K mg base 2 "way_between" spWay := by
  refine cal_of (N := N_way_between) D (ps := ["arcs", "starts", "ends"]) (fun _ _ _ _ _ _ us hl => match us, hl with | [_, _, _], _ => rfl) sc_way_between (fun vs H Q E h => ?_) (fun cdv A outer s H vs Q E hr h => ?_)
  · obtain ⟨la, sa, ea, zs, ss, es, rfl, _⟩ := h
    rfl
  have hu := hu_of hr
  obtain ⟨la, sa, ea, zs, ss, es, rfl, ha, hs, he, nd, l24, l50, q0, q1⟩ := h
  refine ⟨_, (pss_cons (ps_set (i := 3) sc_way_between.nd rfl (by first | exact Or.inl rfl | exact Or.inr rfl) pe_dnewK)
      (pss_cons (ps_for PassesOwn.never rfl (pi_list (pv 0)) (pg_name (i := 4) sc_way_between.nd rfl (by first | exact Or.inl rfl | exact Or.inr rfl))
      (pss_one (ps_expr (pe_bm PySem.F.plainAttrs_list PySem.F.slot_list_append PySem.F.type_list_append mt_append (pe_dsetd (pv 3) (pe_ix ix_tup (pv 4) pe_int (fun _ _ => rfl)) (pe_lst pa_nil) ⟨rfl, rfl, rfl, rfl⟩) (pa_cons (pv 4) pa_nil)))))
      (pss_cons (ps_setDc (i := 5) (own := [("place", 8)]) (by rfl) sc_way_between.nd rfl rfl (sw_dict rfl rfl rfl (by decide +kernel)) (pi_list (pv 1)) (blkOk_by (own := [("place", 8)]) (N := N_way_between) (sc := defScope s_way_between) (by decide +kernel)) (fun _ _ _ _ _ => (pg_name (i := 8) sc_way_between.nd rfl (by first | exact Or.inl rfl | exact Or.inr rfl))) (fun _ _ _ _ _ => pts_nil) (fun _ _ _ _ _ => (pv 8)) (fun _ _ _ _ _ => pe_non))
      (pss_cons (ps_set (i := 6) sc_way_between.nd rfl (by first | exact Or.inl rfl | exact Or.inr rfl) (pe_callTy call_list_of (by rfl) T.list (by decide +kernel) (pa_cons (pv 1) pa_nil)))
      (pss_cons (ps_set (i := 7) sc_way_between.nd rfl (by first | exact Or.inl rfl | exact Or.inr rfl) pe_int)
      (pss_cons (ps_while PassesOwn.never (pt_cmpR op_lt (pv 7) (pe_callB call_len_seq (by rfl) T.len (by decide +kernel) (pa_cons (pv 6) pa_nil)) (nomark _))
      (pss_cons (ps_if (pt_cmpR op_in_seq (pe_ix ix_list (pv 6) (pv 7) (fun _ _ => rfl)) (pv 2) (by with_unfolding_all rfl)) (pss_one (ps_ret (pe_c c_way_back hr (by decide) (by rfl) (pa_cons (pv 5) (pa_cons (pe_ix ix_list (pv 6) (pv 7) (fun _ _ => rfl)) pa_nil))))) pss_nil)
      (pss_cons (ps_for PassesOwn.never rfl (pi_list (pe_dget2 hu (pv 3) (pe_ix ix_list (pv 6) (pv 7) (fun _ _ => rfl)) (pe_lst pa_nil) ⟨rfl, rfl, rfl, rfl⟩)) (pg_name (i := 4) sc_way_between.nd rfl (by first | exact Or.inl rfl | exact Or.inr rfl))
      (pss_one (ps_if (pt_cmp (pc_dnotin hu (pe_ix ix_tup (pv 4) pe_int (fun _ _ => rfl)) (pv 5))) (pss_cons (ps_dput hu (pv 5) (pe_ix ix_tup (pv 4) pe_int (fun _ _ => rfl)) (pv 4) rfl)
      (pss_one (ps_expr (pe_bm PySem.F.plainAttrs_list PySem.F.slot_list_append PySem.F.type_list_append mt_append (pv 6) (pa_cons (pe_ix ix_tup (pv 4) pe_int (fun _ _ => rfl)) pa_nil))))) pss_nil)))
      (pss_one (ps_aug (i := 7) sc_way_between.nd rfl (by first | exact Or.inl rfl | exact Or.inr rfl) pe_int ip_add)))))
      (pss_one (ps_ret pe_non)))))))), ?_⟩
  -- leaving
  refine fun lv hlv => ?_
  have s0 := same_upd (o := .dK []) hlv
  have lfew : ∀ {i : Nat} {Ls : List Str}, Ls.length ≤ (zs.take i).length → Ls.length < 1000 := fun {i Ls} h => by
    rw [List.length_take] at h
    omega
  refine ⟨.ref la, rfl, la, rfl, ⟨_, SqL.of (s0 _ _ ha.1)⟩, for_list (K := K) (a := la) (xs := zs.map fun z => V.ref z.1) (fun i σ H' => ∃ y Ls l, σ = [some (.ref la), some (.ref sa), some (.ref ea), some (.ref lv), y, none, none, none, none] ∧ Same H H' ∧ LvAt H H' lv (zs.take i) Ls l)
    ⟨none, [], fun _ => 0, rfl, s0, ⟨upd_same, fun n h => (nomatch h), fun n h => (nomatch h), fun z h => (nomatch h), Nat.le_refl _⟩⟩ (fun i σ H' _ z => ?_) ?_ ?_⟩
  · obtain ⟨_, _, _, _, s1, _⟩ := z
    exact SqL.of (s1 _ _ ha.1)
  · rintro i v σ H1 hv ⟨y, Ls, l, rfl, s1, L⟩
    obtain ⟨z, rfl, hz⟩ := get_map hv
    have mz := List.mem_of_getElem? hz
    have tz := s1 _ _ (ha.2 z mz)
    have ek : zs.take (i + 1) = zs.take i ++ [z] := by rw [List.take_add_one, hz]; rfl
    refine ⟨.ref lv, rfl, lv, rfl, .inl ⟨_, .inl L.dict⟩, .ref z.1, rfl, z.1, _, 0, .str z.2.src, rfl, rfl, SqT.of tz, rfl, Nat.zero_le _, fun q2 hq2 => ⟨_, Sum.inr z.2.src, same_upd hq2 _ _ L.dict, rfl, sz_lt (by rw [kvs_len]; have := lfew L.few; omega), fun v hv2 => ?_, fun hv2 => ?_⟩⟩
    · have mn : z.2.src ∈ Ls := Classical.byContradiction fun c => by
        rw [val_no c] at hv2
        cases hv2
      rw [val_in mn] at hv2
      cases hv2
      have hl := same_upd hq2 (o := .lst []) _ _ (L.lists _ mn).1
      refine ⟨.inl ⟨rfl, _, SqL.of hl⟩, .ref z.1, rfl, l z.2.src, _, _, rfl, rfl, hl, sz_lt ?_, ?_⟩
      · rw [List.length_map]
        have a1 := List.length_filter_le (fun y : Az => decide (y.2.src = z.2.src)) (zs.take i)
        rw [List.length_take] at a1
        show (srcs (zs.take i) z.2.src).length < 100000
        unfold srcs
        omega
      · exact ⟨_, Ls, l, rfl, (s1.trans (same_upd hq2)).mut (L.lists _ mn).2, by rw [ek]; exact L.old hq2 mn _⟩
    · have mn : z.2.src ∉ Ls := fun c => by
        rw [val_in c] at hv2
        cases hv2
      rw [put_new mn]
      refine ⟨.inl ⟨rfl, [], SqL.of (by rw [upd_ne (ne_of_none L.dict hq2).symm, upd_same])⟩, .ref z.1, rfl, q2, [], _, rfl, rfl, by rw [upd_ne (ne_of_none L.dict hq2).symm, upd_same], sz_lt (by show 0 < 100000; omega), ?_⟩
      exact ⟨_, _, _, rfl, ((s1.trans (same_upd hq2)).mut hlv).mut (s1.free hq2), by rw [ek]; exact L.new hq2 (s1.free hq2) mn⟩
  rintro σ H5 ⟨y, Ls, l, rfl, s5, L⟩
  rw [List.length_map, List.take_length] at L
  -- before
  have hs5 := s5 _ _ hs
  refine ⟨.ref sa, rfl, sa, rfl, ⟨_, SqL.of hs5⟩, fun bf hbf => ?_⟩
  refine dc_it (walk_list (xs := ss.map V.str)) (fun i H' => Same H5 H' ∧ H' bf = some (.dK (kvs (ss.take i) (bkV fun _ => none)))) ⟨same_upd hbf, upd_same⟩ (fun i H' _ z => SqL.of (z.1 _ _ hs5)) ?_ ?_
  · rintro i v H3 H4 hi ⟨s3, h3⟩ ⟨rfl, hv⟩
    obtain ⟨x, rfl, hx⟩ := get_str hv
    refine ⟨rfl, _, rfl, _, Sum.inr x, rfl, h3, sz_lt ?_, s3.mut hbf, ?_⟩
    · rw [kvs_len, List.length_take]
      omega
    · rw [upd_same, List.take_add_one, hx, put_new (take_new nd hx)]
      show some (HO.dK (kvs (ss.take i ++ [x]) (gset (bkV fun _ => none) x .non))) = some (HO.dK (kvs (ss.take i ++ [x]) (bkV fun _ => none)))
      congr 2
      refine kvs_congr fun m _ => ?_
      unfold gset
      split <;> rfl
  rintro H6 ⟨s56, h6⟩
  rw [List.length_map, List.take_length] at h6
  -- waiting
  refine ⟨.ref sa, rfl, sa, _, rfl, .inl (SqL.of (s56 _ _ hs5)), fun wt hwt => ?_⟩
  have n5 : H5 wt = none := s56.free hwt
  have s57 := s56.trans (same_upd (o := .lst (ss.map V.str)) hwt)
  have bw : bf ≠ wt := ne_of_none h6 hwt
  let Inv5 (W : List Str) (bk : Str → Option Az) (k : Nat) (H' : Hp) : Prop := Same H5 H' ∧ H' bf = some (.dK (kvs W (bkV bk))) ∧ H' wt = some (.lst (W.map V.str)) ∧ Fnd zs ss W bk ∧ (∀ s ∈ ss, s ∈ W) ∧ Done zs es W k
  refine ⟨fun m σ H' => ∃ y4 y8 W bk k, σ = [some (.ref la), some (.ref sa), some (.ref ea), some (.ref lv), y4, some (.ref bf), some (.ref wt), some (.int (k : Nat)), y8] ∧ Inv5 W bk k H' ∧ k ≤ W.length ∧ m + k = ss.length + zs.length, ⟨ss.length + zs.length, _, _, ss, fun _ => none, 0, rfl, ⟨s57, by rw [upd_ne bw]; exact h6, upd_same, Fnd.start nd, fun s h => h, fun i n hi => absurd hi (Nat.not_lt_zero _)⟩, Nat.zero_le _, rfl⟩, ?_⟩
  rintro m σ H7 ⟨y4, y8, W, bk, k, rfl, ⟨s7, hb7, hw7, F, hss, dn⟩, hk, hm⟩
  have wl := F.len
  refine ⟨_, rfl, .ref wt, rfl, wt, _, rfl, .inl (SqL.of hw7), _, _, rfl, rfl, _, rfl, ?_⟩
  rw [List.length_map]
  by_cases lt : k < W.length
  · refine iteD (by omega) ?_
    obtain ⟨x, hx⟩ : ∃ x, W[k]? = some x := ⟨W[k], List.getElem?_eq_getElem lt⟩
    have hxv : (W.map V.str)[k]? = some (.str x) := by rw [List.getElem?_map, hx]; rfl
    have ax := atI_nat hxv
    refine ⟨fun σ' H' => ∃ m', m' < m ∧ ∃ y4 y8 W bk k, σ' = [some (.ref la), some (.ref sa), some (.ref ea), some (.ref lv), y4, some (.ref bf), some (.ref wt), some (.int (k : Nat)), y8] ∧ Inv5 W bk k H' ∧ k ≤ W.length ∧ m' + k = ss.length + zs.length, fun σ' H' h => h, ?_⟩
    refine ⟨.ref wt, rfl, _, rfl, wt, _, _, .str x, rfl, rfl, SqL.of hw7, ax, .ref ea, rfl, ea, _, rfl, .inl (SqL.of (s7 _ _ (s5 _ _ he))), rfl, flatS es, decide (x ∈ es), ?_, ?_⟩
    · show V.bl (inV (.str x) (es.map V.str)) = _
      rw [in_strs]
    by_cases xe : x ∈ es
    · refine iteD xe ?_
      have s07 := s5.trans s7
      refine ⟨.ref bf, rfl, .ref wt, rfl, _, rfl, wt, _, _, .str x, rfl, rfl, SqL.of hw7, ax, bf, zs, ss, W, bk, k, x, rfl, hb7, F, hx, fun z hz => s07 _ _ (ha.2 z hz), by omega, fun H' r ws s s8 nr hws hsub hs8 pth smp hl => ?_⟩
      exact q1 H' r ws s x (s07.trans s8) (s07.free nr) hws hsub hs8 xe pth smp hl
    · refine iteDF xe ?_
      refine ⟨.ref lv, rfl, lv, rfl, .inl ⟨_, .inl (s7 _ _ L.dict)⟩, .ref wt, rfl, _, rfl, wt, _, _, .str x, rfl, rfl, SqL.of hw7, ax, Nat.zero_le _, fun q2 hq2 => ?_⟩
      have e2 := same_upd (o := .lst []) hq2
      have hc : ∃ o c, DGet (upd H7 q2 (.lst [])) lv (.str x) o ∧ o.getD (.ref q2) = V.ref c ∧ upd H7 q2 (.lst []) c = some (.lst ((srcs zs x).map fun z => V.ref z.1)) ∧ c ≠ bf ∧ c ≠ wt := by
        by_cases mx : x ∈ Ls
        · have e := s7 _ _ (L.lists x mx).1
          refine ⟨_, l x, dget (Rd.of (e2 _ _ (s7 _ _ L.dict))) mx, rfl, e2 _ _ e, (fun z => by rw [z, hb7] at e; cases e), ne_of_none (L.lists x mx).1 n5⟩
        · refine ⟨none, q2, ?_, rfl, ?_, (ne_of_none hb7 hq2).symm, (ne_of_none hw7 hq2).symm⟩
          · rw [← val_no (g := fun n => V.ref (l n)) mx]
            exact dgetO (Rd.of (e2 _ _ (s7 _ _ L.dict)))
          · have em : srcs zs x = [] := List.filter_eq_nil_iff.mpr fun y hy h => mx (by rw [← of_decide_eq_true h]; exact L.all y hy)
            rw [em, upd_same]
            rfl
      obtain ⟨o, c, dg, eo, hcl, cb, cw⟩ := hc
      refine ⟨o, dg, c, eo, ⟨_, SqL.of hcl⟩, ?_⟩
      refine for_list (K := K) (a := c) (xs := (srcs zs x).map fun z => V.ref z.1) (fun i σ H' => ∃ y4 W bk, σ = [some (.ref la), some (.ref sa), some (.ref ea), some (.ref lv), y4, some (.ref bf), some (.ref wt), some (.int (k : Nat)), y8] ∧ Inv5 W bk k H' ∧ W[k]? = some x ∧ (∀ z ∈ (srcs zs x).take i, z.2.dst ∈ W) ∧ H' c = some (.lst ((srcs zs x).map fun z => V.ref z.1)))
        ⟨_, W, bk, rfl, ⟨s7.trans e2, e2 _ _ hb7, e2 _ _ hw7, F, hss, dn⟩, hx, fun z h => (nomatch h), hcl⟩ (fun i σ H' _ z => ?_) ?_ ?_
      · obtain ⟨_, _, _, _, _, _, _, h⟩ := z
        exact SqL.of h
      · rintro i v σ H8 hv ⟨y4, W, bk, rfl, ⟨s8, hb8, hw8, F, hss, dn⟩, hx, hin, hc8⟩
        obtain ⟨z, rfl, hz⟩ := get_map hv
        have mz0 := List.mem_of_getElem? hz
        have mz : z ∈ zs := (List.mem_filter.mp mz0).1
        have sz : z.2.src = x := of_decide_eq_true (List.mem_filter.mp mz0).2
        have tz := s8 _ _ (s5 _ _ (ha.2 z mz))
        have kl : k < W.length := (List.getElem?_eq_some_iff.mp hx).1
        have wl := F.len
        have ek : (srcs zs x).take (i + 1) = (srcs zs x).take i ++ [z] := by rw [List.take_add_one, hz]; rfl
        refine ⟨.ref z.1, rfl, z.1, _, 1, .str z.2.dst, rfl, rfl, SqT.of tz, rfl, .ref bf, rfl, bf, _, rfl, dgetO (Rd.of hb8), _, rfl, ?_⟩
        rw [val_some]
        by_cases md : z.2.dst ∈ W
        · rw [decide_eq_true md]
          refine iteF ⟨_, W, bk, rfl, ⟨s8, hb8, hw8, F, hss, dn⟩, hx, fun y hy => ?_, hc8⟩
          rw [ek] at hy
          exact (List.mem_append.mp hy).elim (hin y) fun h => by rw [List.mem_singleton.mp h]; exact md
        · rw [decide_eq_false md]
          refine iteT ?_
          refine ⟨.ref z.1, rfl, .ref bf, rfl, .ref z.1, rfl, z.1, _, 1, .str z.2.dst, rfl, rfl, SqT.of tz, rfl, bf, _, rfl, dputN hb8 md (by omega), ?_⟩
          have s9 := s8.mut (o := .dK (kvs (W ++ [z.2.dst]) (gset (bkV bk) z.2.dst (.ref z.1)))) hbf
          refine ⟨.ref wt, rfl, .inl ⟨rfl, _, SqL.of (by rw [upd_ne bw.symm]; exact hw8)⟩, .ref z.1, rfl, z.1, _, 1, .str z.2.dst, rfl, rfl, SqT.of (s9 _ _ (s5 _ _ (ha.2 z mz))), rfl, wt, _, _, rfl, rfl, by rw [upd_ne bw.symm]; exact hw8, sz_lt (by rw [List.length_map]; omega), ?_⟩
          refine ⟨_, W ++ [z.2.dst], bset bk z.2.dst z, rfl, ⟨s9.mut n5, ?_, ?_, F.grow mz (by rw [sz]; exact hx) md, fun s h => List.mem_append_left _ (hss s h), dn.grow (by omega) _⟩, ?_, fun y hy => ?_, ?_⟩
          · rw [upd_ne bw, upd_same, bkV_set]
          · rw [upd_same, List.map_append]
            rfl
          · rw [List.getElem?_append_left kl]
            exact hx
          · rw [ek] at hy
            refine List.mem_append.mpr ((List.mem_append.mp hy).imp (hin y) fun h => by rw [List.mem_singleton.mp h]; exact List.mem_singleton.mpr rfl)
          · rw [upd_ne cw, upd_ne cb]
            exact hc8
      · rintro σ H8 ⟨y4, W, bk, rfl, ⟨s8, hb8, hw8, F, hss, dn⟩, hx, hin, hc8⟩
        rw [List.length_map, List.take_length] at hin
        have kl : k < W.length := (List.getElem?_eq_some_iff.mp hx).1
        have wl := F.len
        refine ⟨_, rfl, _, _, rfl, rfl, ?_⟩
        refine ⟨m - 1, by omega, _, _, W, bk, k + 1, rfl, ⟨s8, hb8, hw8, F, hss, fun i n hi hn => ?_⟩, by omega, by omega⟩
        rcases Nat.lt_or_ge i k with g | g
        · exact dn i n g hn
        · have e : i = k := by omega
          subst e
          rw [hx] at hn
          cases hn
          exact ⟨xe, fun z hz e => hin z (List.mem_filter.mpr ⟨hz, decide_eq_true e⟩)⟩
  · refine iteDF (by omega) ?_
    refine q0 H7 (fun n => decide (n ∈ W)) (s5.trans s7) (fun a hm hs => ?_) (fun s h => decide_eq_true (hss s h)) fun e h => decide_eq_false fun hW => ?_
    · obtain ⟨z, hz, rfl⟩ := List.mem_map.mp hm
      obtain ⟨i, hi⟩ := List.getElem?_of_mem (of_decide_eq_true hs)
      have := (List.getElem?_eq_some_iff.mp hi).1
      exact decide_eq_true ((dn i _ (by omega) hi).2 z hz rfl)
    · obtain ⟨i, hi⟩ := List.getElem?_of_mem hW
      have := (List.getElem?_eq_some_iff.mp hi).1
      exact (dn i _ (by omega) hi).1 h
end
end Ms
set_option Elab.async false
set_option linter.all false
set_option maxRecDepth 100000
set_option maxHeartbeats 4000000
/-! Pushing; what can be reached. -/
namespace Ms
open PySem PySem.Spec PyProof.Rows L2
section
variable {P : Program} {w : World} {K : PySem.W.Frag} {mg : Str → Option Value} {base : Heap} {C CM CR : Addr}
/-! ### push -/
abbrev s_push : Stmt := topS 22
abbrev N_push : List Str := ["flows", "way", "most", "amount", "arc"]
theorem sc_push : FnScope N_push ["flows", "way", "most"] (defScope s_push) := ⟨rfl, rfl, rfl, by decide +kernel, rfl, by decide +kernel, by decide +kernel⟩
def FlAt (H : Hp) (fl : Addr) (lf : List Str) (f : Str → Int) : Prop := H fl = some (.dK (kvs lf (gI f)))
def spPush : Sp := fun vs H Q _ => ∃ (fl wa : Addr) (ws : List Az) (lf : List Str) (f : Str → Int) (most : Int), vs = [.ref fl, .ref wa, .int most] ∧ FlAt H fl lf f ∧ ArcAt H wa ws ∧ (∀ z ∈ ws, z.2.nm ∈ lf ∧ (z.2.sg = 1 ∨ z.2.sg = -1)) ∧ lf.length ≤ 24 ∧ ws.length ≤ 100 ∧
  ∀ H' m, But fl H H' → FlAt H' fl lf (pushF f (ws.map (·.2)) m) → m ≤ most → (∀ z ∈ ws, m ≤ z.2.room) → (m = most ∨ ∃ z ∈ ws, m = z.2.room) → Q (.int m) H'
theorem ok_push (T : Txt K mg C CM CR) {f : Addr} {fd : FuncData} (D : DefIn K mg "push" s_push f fd) : Cal P w K mg base 1 "push" spPush := by
  refine cal_of (N := N_push) D (ps := ["flows", "way", "most"]) (fun _ _ _ _ _ _ us hl => match us, hl with | [_, _, _], _ => rfl) sc_push (fun vs H Q E h => ?_) (fun cdv A outer s H vs Q E hr h => ?_)
  · obtain ⟨fl, wa, ws, lf, f, most, rfl, _⟩ := h
    rfl
  have hu := hu_of hr
  obtain ⟨fl, wa, ws, lf, f, most, rfl, hf, ha, hn, lf24, w100, q⟩ := h
  refine ⟨_, (pss_cons (ps_set (i := 3) sc_push.nd rfl (by first | exact Or.inl rfl | exact Or.inr rfl) (pe_callB (cr_min rfl) (by rfl) T.min (by decide +kernel) (pa_cons (pe_op op_cat (pe_lst (pa_cons (pv 2) pa_nil)) (pe_lc (own := [("arc", 4)]) (by rfl) sc_push.nd (pi_list (pv 1)) (blkOk_by (own := [("arc", 4)]) (N := N_push) (sc := defScope s_push) (by decide +kernel)) (fun _ _ _ _ _ => (pg_name (i := 4) sc_push.nd rfl (by first | exact Or.inl rfl | exact Or.inr rfl))) (fun _ _ _ _ _ => pts_nil) (fun _ _ _ _ _ => (pe_ix (ix_tK (K := K) rfl) (pv 4) pe_int (fun _ _ => rfl))))) pa_nil)))
      (pss_cons (ps_for PassesOwn.never rfl (pi_list (pv 1)) (pg_name (i := 4) sc_push.nd rfl (by first | exact Or.inl rfl | exact Or.inr rfl))
      (pss_one (ps_daug hu (pv 0) (pe_ix ix_tup (pv 4) pe_int (fun _ _ => rfl)) (pe_op op_mul (pe_ix ix_tup (pv 4) pe_int (fun _ _ => rfl)) (pv 3)) in_add (fun _ _ _ => rfl))))
      (pss_one (ps_ret (pv 3))))), ?_⟩
  -- amount
  refine ⟨_, rfl, (by show 1 ≤ sizeLine; decide), fun q1 hq1 => ?_⟩
  have s1 := same_upd (o := .lst [.int most]) hq1
  refine ⟨.ref wa, rfl, wa, rfl, ⟨_, SqL.of (s1 _ _ ha.1)⟩, fun D hD => lc_it (walk_list (xs := ws.map fun z => V.ref z.1)) (LcP _ D fun i acc _ => acc = (ws.take i).map fun z => V.int z.2.room) (LcP.start hD rfl) (fun i H2 _ z => SqL.of (z.1 _ _ (s1 _ _ ha.1))) ?_ ?_⟩
  · rintro i v H2 H3 hi ⟨s2, acc, hc, rfl⟩ ⟨rfl, hv⟩
    obtain ⟨z, rfl, hz⟩ := get_map hv
    have mz := List.mem_of_getElem? hz
    refine ⟨rfl, _, rfl, z.1, _, 4, .int z.2.room, rfl, rfl, SqT.of (s2 _ _ (s1 _ _ (ha.2 z mz))), rfl, LcP.put hD s2 hc (sz_lt ?_) ?_⟩
    · rw [List.length_map, List.length_take]
      omega
    · rw [List.take_add_one, hz, List.map_append]
      rfl
  rintro H2 ⟨s2, acc, hc, rfl⟩
  rw [List.length_map, List.take_length] at hc
  have eq1 := s2 q1 (.lst [.int most]) upd_same
  refine ⟨q1, D, _, _, rfl, rfl, eq1, hc, sz_le (by rw [List.length_map, List.length_singleton]; omega), fun q3 hq3 => ?_⟩
  refine ⟨q3, most :: ws.map (·.2.room), rfl, SqL.of (by rw [upd_same, List.map_cons, List.map_map]; rfl), Nat.zero_lt_succ _, fun m hm hle => ?_⟩
  have s13 := (s1.trans s2).trans (same_upd (o := .lst ([V.int most] ++ ws.map fun z => V.int z.2.room)) hq3)
  -- the pushes
  have hf3 := s13 _ _ hf
  have ha3 := ha.same s13
  have nwf : wa ≠ fl := fun z => by have t := ha3.1; rw [z, hf3] at t; cases t
  refine ⟨.ref wa, rfl, wa, rfl, ⟨_, SqL.of ha3.1⟩, for_list (K := K) (a := wa) (xs := ws.map fun z => V.ref z.1) (fun i σ H' => ∃ y, σ = [some (.ref fl), some (.ref wa), some (.int most), some (.int m), y] ∧ But fl H H' ∧ FlAt H' fl lf (pushF f ((ws.take i).map (·.2)) m))
    ⟨none, rfl, s13.but, hf3⟩ (fun i σ H' _ z => ?_) ?_ ?_⟩
  · obtain ⟨_, _, b, _⟩ := z
    exact SqL.of (b _ _ nwf ha.1)
  · rintro i v σ H4 hv ⟨y, rfl, b4, h4⟩
    obtain ⟨z, rfl, hz⟩ := get_map hv
    have mz := List.mem_of_getElem? hz
    have tz := b4 _ _ (fun e => by have t := ha.2 z mz; rw [e, hf] at t; cases t) (ha.2 z mz)
    refine ⟨.ref fl, rfl, .ref z.1, rfl, z.1, _, 2, .str z.2.nm, rfl, rfl, SqT.of tz, rfl, fl, _, rfl, dget (Rd.of h4) (hn z mz).1, .ref z.1, rfl, z.1, _, 3, .int z.2.sg, rfl, rfl, SqT.of tz, rfl, _, rfl, _, _, rfl, rfl, .inl (by rcases (hn z mz).2 with e | e <;> rw [e] <;> decide), _, _, rfl, rfl, _, dput h4 (hn z mz).1 (by omega), ?_⟩
    rw [gI_set]
    refine ⟨_, rfl, b4.trans (But.upd _ _), ?_⟩
    unfold FlAt
    rw [upd_same, List.take_add_one, hz, List.map_append, pushF_append]
    rfl
  · rintro σ H4 ⟨y, rfl, b4, h4⟩
    rw [List.length_map, List.take_length] at h4
    refine ⟨_, rfl, q _ m b4 h4 (hle _ List.mem_cons_self) (fun z hz => hle _ (List.mem_cons_of_mem _ (List.mem_map.mpr ⟨z, hz, rfl⟩))) ?_⟩
    rcases List.mem_cons.mp hm with e | e
    · exact .inl e
    · obtain ⟨z, hz, e⟩ := List.mem_map.mp e
      exact .inr ⟨z, hz, e.symm⟩
/-! ### push_all -/
abbrev s_push_all : Stmt := topS 23
abbrev N_push_all : List Str := ["lines", "limits", "flows", "start", "end", "most", "pushed", "way"]
theorem sc_push_all : FnScope N_push_all ["lines", "limits", "flows", "start", "end", "most"] (defScope s_push_all) := ⟨rfl, rfl, rfl, by decide +kernel, rfl, by decide +kernel, by decide +kernel⟩
/-- flows f' are f with m pushed from st to en along the streams ls -/
structure Moved (tl hd : Str → Str) (lo hi : Str → Int) (ls : List Str) (st en : Str) (f f' : Str → Int) (m : Int) : Prop where
  keep : ∀ n, lo n ≤ f n ∧ f n ≤ hi n → lo n ≤ f' n ∧ f' n ≤ hi n
  off : ∀ n, n ∉ ls → f' n = f n
  net : ∀ ns : List Str, ns.Nodup → (∀ n ∈ ls, n ∈ ns) → ∀ k, net tl hd ns f' k = net tl hd ns f k - (if st = k then m else 0) + (if en = k then m else 0)
theorem Moved.refl (tl hd : Str → Str) (lo hi : Str → Int) (ls : List Str) (st en : Str) (f : Str → Int) : Moved tl hd lo hi ls st en f f 0 := ⟨fun n h => h, fun n _ => rfl, fun ns _ _ k => by simp⟩
theorem Moved.push {tl hd : Str → Str} {lo hi : Str → Int} {ls : List Str} {st en s e : Str} {f f1 : Str → Int} {m a : Int} (M : Moved tl hd lo hi ls st en f f1 m) {ws : List Ar} (p : IsPath (IsArc tl hd lo hi f1 ls) s ws e) (sm : Simple s ws)
    (es : s = st) (ee : e = en) (a0 : 0 ≤ a) (ha : ∀ z ∈ ws, a ≤ z.room) : Moved tl hd lo hi ls st en f (pushF f1 ws a) (m + a) := by
  subst es ee
  refine ⟨fun n h => within_push a0 p sm ha (M.keep n h), fun n hn => ?_, fun ns nd sub k => ?_⟩
  · rw [pushF_other ws f1 a fun hm => ?_]
    · exact M.off n hn
    · obtain ⟨z, hz, ez⟩ := List.mem_map.mp hm
      exact hn (by rw [← ez]; exact (p.all z hz).mem)
  · rw [net_push nd a k f1 (p.imp fun z hz => hz.ends sub), M.net ns nd sub k]
    repeat' split
    all_goals omega
def spPushAll : Sp := fun vs H Q _ => ∃ (la li fl : Addr) (ls lm lf : List Str) (tl hd : Str → Str) (lo hi f : Str → Int) (st en : Str) (most : Int), vs = [.ref la, .ref li, .ref fl, .str st, .str en, .int most] ∧ LinAt H la ls tl hd ∧ LimAt H li lm lo hi ∧ FlAt H fl lf f ∧ li ≠ fl ∧
  (∀ n ∈ ls, n ∈ lm ∧ n ∈ lf) ∧ ls.length ≤ 24 ∧ lf.length ≤ 24 ∧ 0 ≤ most ∧
  ∀ H' f' m, But fl H H' → FlAt H' fl lf f' → Moved tl hd lo hi ls st en f f' m → 0 ≤ m → m ≤ most → (m = most ∨ ∃ S, Shut tl hd lo hi ls f' S ∧ S st = true ∧ S en = false) → Q (.int m) H'
theorem arcs_names {tl hd : Str → Str} {lo hi f : Str → Int} {ls : List Str} {zs : List Az} (ez : zs.map (·.2) = arcsOf tl hd lo hi f ls) {s e : Str} {w : List Ar} (p : IsPath (fun a => a ∈ zs.map (·.2)) s w e) : IsPath (IsArc tl hd lo hi f ls) s w e :=
  p.imp fun a ha => isArc_of (by rw [← ez]; exact ha)
theorem ok_push_all (T : Txt K mg C CM CR) {f : Addr} {fd : FuncData} (D : DefIn K mg "push_all" s_push_all f fd) (c_arcs_of : Cal P w K mg base 1 "arcs_of" spArcs) (c_way_between : Cal P w K mg base 2 "way_between" spWay) (c_push : Cal P w K mg base 1 "push" spPush) : Cal P w K mg base 3 "push_all" spPushAll := by
  refine cal_of (N := N_push_all) D (ps := ["lines", "limits", "flows", "start", "end", "most"]) (fun _ _ _ _ _ _ us hl => match us, hl with | [_, _, _, _, _, _], _ => rfl) sc_push_all (fun vs H Q E h => ?_) (fun cdv A outer s H vs Q E hr h => ?_)
  · obtain ⟨la, li, fl, ls, lm, lf, tl, hd, lo, hi, f, st, en, most, rfl, _⟩ := h
    rfl
  have hu := hu_of hr
  obtain ⟨la, li, fl, ls, lm, lf, tl, hd, lo, hi, f, st, en, most, rfl, hla, hli, hfl, nlf, hin, l24, lf24, m0, q⟩ := h
  refine ⟨_, (pss_cons (ps_set (i := 6) sc_push_all.nd rfl (by first | exact Or.inl rfl | exact Or.inr rfl) pe_int)
      (pss_cons (ps_while PassesOwn.never (pt_cmpR op_lt (pv 6) (pv 5) (nomark _))
      (pss_cons (ps_set (i := 7) sc_push_all.nd rfl (by first | exact Or.inl rfl | exact Or.inr rfl) (pe_c c_way_between hr (by decide) (by rfl) (pa_cons (pe_c c_arcs_of hr (by decide) (by rfl) (pa_cons (pv 0) (pa_cons (pv 1) (pa_cons (pv 2) pa_nil)))) (pa_cons (pe_lst (pa_cons (pv 3) pa_nil)) (pa_cons (pe_lst (pa_cons (pv 4) pa_nil)) pa_nil)))))
      (pss_cons (ps_if (pt_cmpR op_isN (pv 7) pe_non (nomark _)) (pss_one (ps_ret (pv 6))) pss_nil)
      (pss_one (ps_aug (i := 6) sc_push_all.nd rfl (by first | exact Or.inl rfl | exact Or.inr rfl) (pe_c c_push hr (by decide) (by rfl) (pa_cons (pv 2) (pa_cons (pv 7) (pa_cons (pe_op op_sub (pv 5) (pv 6)) pa_nil)))) ip_add)))))
      (pss_one (ps_ret (pv 6))))), ?_⟩
  refine ⟨fun μ σ H' => ∃ y f' m, σ = [some (.ref la), some (.ref li), some (.ref fl), some (.str st), some (.str en), some (.int most), some (.int m), y] ∧ But fl H H' ∧ FlAt H' fl lf f' ∧ Moved tl hd lo hi ls st en f f' m ∧ 0 ≤ m ∧ m ≤ most ∧ μ = (most - m).toNat,
    ⟨_, _, f, 0, rfl, But.refl _ _, hfl, Moved.refl _ _ _ _ _ _ _ _, Int.le_refl _, m0, rfl⟩, ?_⟩
  rintro μ σ H1 ⟨y, f1, m, rfl, b1, hf1, M, mm, ml, rfl⟩
  refine ⟨_, rfl, _, rfl, _, _, rfl, rfl, _, rfl, ?_⟩
  by_cases lt : m < most
  · refine iteD lt ⟨fun σ' H' => ∃ μ', μ' < (most - m).toNat ∧ ∃ y f' m, σ' = [some (.ref la), some (.ref li), some (.ref fl), some (.str st), some (.str en), some (.int most), some (.int m), y] ∧ But fl H H' ∧ FlAt H' fl lf f' ∧ Moved tl hd lo hi ls st en f f' m ∧ 0 ≤ m ∧ m ≤ most ∧ μ' = (most - m).toNat, fun σ' H' h => h, ?_⟩
    have hla1 := hla.but b1 hfl
    have hli1 := hli.but b1 hfl nlf
    refine ⟨.ref la, rfl, .ref li, rfl, .ref fl, rfl, la, li, fl, ls, lm, lf, tl, hd, lo, hi, f1, rfl, hla1, hli1, Rd.of hf1, hin, l24, fun H2 r zs s2 nr hz ez => ?_⟩
    refine ⟨.str st, rfl, (by show 1 ≤ sizeLine; decide), fun q1 hq1 => ⟨.str en, rfl, (by show 1 ≤ sizeLine; decide), fun q2 hq2 => ?_⟩⟩
    have s3 := (same_upd (o := .lst [.str st]) hq1).trans (same_upd (o := .lst [.str en]) hq2)
    have zl : zs.length ≤ 50 := by
      have a1 := arcs_len tl hd lo hi f1 ls
      rw [← ez, List.length_map] at a1
      omega
    refine ⟨r, q1, q2, zs, [st], [en], rfl, hz.same s3, same_upd hq2 _ _ upd_same, upd_same, by simp, by show 1 ≤ 24; omega, zl, fun H4 S s4 cl hs he => ?_, fun H4 r2 ws s e s4 nr2 hws hsub hs he pth smp wl => ?_⟩
    · refine ⟨_, rfl, rfl, _, rfl, iteT ⟨_, rfl, ?_⟩⟩
      have s14 := s2.trans (s3.trans s4)
      exact q H4 f1 m (b1.trans s14.but) (s14 _ _ hf1) M mm ml (.inr ⟨S, shut_of (fun a ha => cl a (by rw [ez]; exact ha)), hs st (List.mem_singleton.mpr rfl), he en (List.mem_singleton.mpr rfl)⟩)
    · have s14 := s2.trans (s3.trans s4)
      have pa := arcs_names ez pth
      refine ⟨_, rfl, rfl, _, rfl, iteF ⟨_, rfl, .ref fl, rfl, .ref r2, rfl, _, rfl, _, rfl, _, _, rfl, rfl, ?_⟩⟩
      refine ⟨fl, r2, ws, lf, f1, most - m, rfl, s14 _ _ hf1, hws, fun z hz => ⟨(hin _ (pa.all z.2 (List.mem_map.mpr ⟨z, hz, rfl⟩)).mem).2, (pa.all z.2 (List.mem_map.mpr ⟨z, hz, rfl⟩)).way.imp (fun e => e.1) fun e => e.1⟩, lf24, wl, fun H5 a b5 hf5 am ar ae => ?_⟩
      have a1 : 1 ≤ a := by
        rcases ae with e | ⟨z, hz, e⟩
        · omega
        · have := (pa.all z.2 (List.mem_map.mpr ⟨z, hz, rfl⟩)).pos
          omega
      refine ⟨m, a, rfl, rfl, (most - (m + a)).toNat, by omega, _, _, m + a, rfl, b1.trans (s14.but.trans b5), hf5, M.push pa smp (List.mem_singleton.mp hs) (List.mem_singleton.mp he) (by omega) (fun z hz => ?_), by omega, by omega, rfl⟩
      obtain ⟨y, hy, rfl⟩ := List.mem_map.mp hz
      exact ar y hy
  · refine iteDF lt ?_
    exact ⟨_, rfl, q H1 f1 m b1 hf1 M mm ml (.inl (by omega))⟩
/-! ### come_to -/
abbrev s_come_to : Stmt := topS 26
abbrev N_come_to : List Str := ["pairs", "starts", "found", "waiting", "place", "one", "other"]
theorem sc_come_to : FnScope N_come_to ["pairs", "starts"] (defScope s_come_to) := ⟨rfl, rfl, rfl, by decide +kernel, rfl, by decide +kernel, by decide +kernel⟩
def PrAt (H : Hp) (a : Addr) (ps : List (Addr × Str × Str)) : Prop := H a = some (.lst (ps.map fun z => V.ref z.1)) ∧ ∀ z ∈ ps, H z.1 = some (.tup [.str z.2.1, .str z.2.2])
def spCome : Sp := fun vs H Q _ => ∃ (pa sa : Addr) (ps : List (Addr × Str × Str)) (ss : List Str), vs = [.ref pa, .ref sa] ∧ PrAt H pa ps ∧ H sa = some (.lst (ss.map V.str)) ∧ ss.Nodup ∧ ss.length ≤ 24 ∧ ps.length ≤ 50 ∧
  ∀ H' r W, Same H H' → H r = none → H' r = some (.dK (kvs W fun _ => V.bl true)) → Q (.ref r) H'
theorem ok_come_to (T : Txt K mg C CM CR) {f : Addr} {fd : FuncData} (D : DefIn K mg "come_to" s_come_to f fd) : Cal P w K mg base 1 "come_to" spCome := by
  refine cal_of (N := N_come_to) D (ps := ["pairs", "starts"]) (fun _ _ _ _ _ _ us hl => match us, hl with | [_, _], _ => rfl) sc_come_to (fun vs H Q E h => ?_) (fun cdv A outer s H vs Q E hr h => ?_)
  · obtain ⟨pa, sa, ps, ss, rfl, _⟩ := h
    rfl
  have hu := hu_of hr
  obtain ⟨pa, sa, ps, ss, rfl, hp, hs, nd, l24, l50, q⟩ := h
  refine ⟨_, (pss_cons (ps_setDc (i := 2) (own := [("place", 4)]) (by rfl) sc_come_to.nd rfl rfl (sw_dict rfl rfl rfl (by decide +kernel)) (pi_list (pv 1)) (blkOk_by (own := [("place", 4)]) (N := N_come_to) (sc := defScope s_come_to) (by decide +kernel)) (fun _ _ _ _ _ => (pg_name (i := 4) sc_come_to.nd rfl (by first | exact Or.inl rfl | exact Or.inr rfl))) (fun _ _ _ _ _ => pts_nil) (fun _ _ _ _ _ => (pv 4)) (fun _ _ _ _ _ => pe_bl))
      (pss_cons (ps_set (i := 3) sc_come_to.nd rfl (by first | exact Or.inl rfl | exact Or.inr rfl) (pe_callTy call_list_of (by rfl) T.list (by decide +kernel) (pa_cons (pv 1) pa_nil)))
      (pss_cons (ps_while PassesOwn.never (pt_truth (pv 3) (by intro _; rfl))
      (pss_cons (ps_set (i := 4) sc_come_to.nd rfl (by first | exact Or.inl rfl | exact Or.inr rfl) (pe_bm0 PySem.F.plainAttrs_list PySem.F.slot_list_pop PySem.F.type_list_pop mt_pop (pv 3)))
      (pss_one (ps_for PassesOwn.never rfl (pi_list (pv 0)) (pg_tup (by rfl) (pgs_cons (pg_name (i := 5) sc_come_to.nd rfl (by first | exact Or.inl rfl | exact Or.inr rfl)) (pgs_cons (pg_name (i := 6) sc_come_to.nd rfl (by first | exact Or.inl rfl | exact Or.inr rfl)) pgs_nil)))
      (pss_one (ps_if (PW.pt (pw_and (pt_cmpR op_eq (pv 5) (pv 4) (nomark _)) (pw_and1 (pt_cmp (pc_dnotin hu (pv 6) (pv 2)))))) (pss_cons (ps_dput hu (pv 2) (pv 6) pe_bl rfl)
      (pss_one (ps_expr (pe_bm PySem.F.plainAttrs_list PySem.F.slot_list_append PySem.F.type_list_append mt_append (pv 3) (pa_cons (pv 6) pa_nil))))) pss_nil))))))
      (pss_one (ps_ret (pv 2)))))), ?_⟩
  refine ⟨.ref sa, rfl, sa, rfl, ⟨_, SqL.of hs⟩, fun fo hfo => ?_⟩
  refine dc_it (walk_list (xs := ss.map V.str)) (fun i H' => Same H H' ∧ H' fo = some (.dK (kvs (ss.take i) fun _ => V.bl true))) ⟨same_upd hfo, upd_same⟩ (fun i H' _ z => SqL.of (z.1 _ _ hs)) ?_ ?_
  · rintro i v H3 H4 hi ⟨s3, h3⟩ ⟨rfl, hv⟩
    obtain ⟨x, rfl, hx⟩ := get_str hv
    refine ⟨rfl, _, rfl, _, Sum.inr x, rfl, h3, sz_lt ?_, s3.mut hfo, ?_⟩
    · rw [kvs_len, List.length_take]
      omega
    · rw [upd_same, List.take_add_one, hx, put_new (take_new nd hx)]
      refine congrArg (fun z => some (HO.dK z)) (kvs_congr fun m _ => ?_)
      unfold gset
      split <;> rfl
  rintro H1 ⟨s1, h1⟩
  rw [List.length_map, List.take_length] at h1
  refine ⟨.ref sa, rfl, sa, _, rfl, .inl (SqL.of (s1 _ _ hs)), fun wt hwt => ?_⟩
  have n0 : H wt = none := s1.free hwt
  have fw : fo ≠ wt := ne_of_none h1 hwt
  let B := ss ++ ps.map (·.2.2)
  have hB : B.length ≤ 74 := by
    show (ss ++ ps.map (·.2.2)).length ≤ 74
    rw [List.length_append, List.length_map]
    omega
  let Iv (W X : List Str) (H' : Hp) : Prop := Same H H' ∧ H' fo = some (.dK (kvs W fun _ => V.bl true)) ∧ H' wt = some (.lst (X.map V.str)) ∧ W.Nodup ∧ (∀ x ∈ W, x ∈ B) ∧ X.length ≤ W.length
  refine ⟨fun μ σ H' => ∃ y4 y5 y6 W X, σ = [some (.ref pa), some (.ref sa), some (.ref fo), some (.ref wt), y4, y5, y6] ∧ Iv W X H' ∧ μ + 2 * W.length = 2 * B.length + X.length, ⟨2 * B.length - ss.length, _, _, _, ss, ss, rfl, ⟨s1.trans (same_upd hwt), by rw [upd_ne fw]; exact h1, upd_same, nd, fun x h => List.mem_append_left _ h, Nat.le_refl _⟩, ?_⟩, ?_⟩
  · have : ss.length ≤ B.length := by
      show ss.length ≤ (ss ++ ps.map (·.2.2)).length
      rw [List.length_append]
      omega
    omega
  rintro μ σ H2 ⟨y4, y5, y6, W, X, rfl, ⟨s2, hf2, hw2, ndW, hWB, XW⟩, hμ⟩
  have wB := nodup_len W B ndW hWB
  refine ⟨_, rfl, _, .inl ⟨_, SqL.of hw2, rfl⟩, ?_⟩
  cases eX : X.map V.str with
  | nil =>
    refine iteF ⟨_, rfl, q H2 fo W s2 hfo hf2⟩
  | cons x0 X0 =>
    refine iteT ⟨fun σ' H' => ∃ μ', μ' < μ ∧ ∃ y4 y5 y6 W X, σ' = [some (.ref pa), some (.ref sa), some (.ref fo), some (.ref wt), y4, y5, y6] ∧ Iv W X H' ∧ μ' + 2 * W.length = 2 * B.length + X.length, fun σ' H' h => h, ?_⟩
    have xl : 0 < X.length := by
      have := congrArg List.length eX
      rw [List.length_map, List.length_cons] at this
      omega
    obtain ⟨x, hx⟩ : ∃ x, X[X.length - 1]? = some x := ⟨X[X.length - 1], List.getElem?_eq_getElem (by omega)⟩
    refine ⟨_, rfl, .inl ⟨rfl, _, SqL.of hw2⟩, wt, _, .str x, rfl, rfl, hw2, by rw [List.length_map, List.getElem?_map, hx]; rfl, ?_⟩
    refine ⟨.ref pa, rfl, pa, rfl, ⟨_, SqL.of ((s2.mut n0) _ _ hp.1)⟩, for_list (K := K) (a := pa) (xs := ps.map fun z => V.ref z.1) (fun i σ H' => ∃ y5 y6 W X, σ = [some (.ref pa), some (.ref sa), some (.ref fo), some (.ref wt), some (.str x), y5, y6] ∧ Iv W X H' ∧ 2 * B.length + X.length + 1 ≤ μ + 2 * W.length)
      ⟨_, _, W, X.dropLast, rfl, ⟨s2.mut n0, by rw [upd_ne fw]; exact hf2, by rw [upd_same, List.map_dropLast], ndW, hWB, by rw [List.length_dropLast]; omega⟩, by rw [List.length_dropLast]; omega⟩ (fun i σ H' _ z => ?_) ?_ ?_⟩
    · obtain ⟨_, _, _, _, _, ⟨s, _⟩, _⟩ := z
      exact SqL.of (s _ _ hp.1)
    · rintro i v σ H3 hv ⟨y5, y6, W, X, rfl, ⟨s3, hf3, hw3, ndW, hWB, XW⟩, hμ⟩
      obtain ⟨z, rfl, hz⟩ := get_map hv
      have mz := List.mem_of_getElem? hz
      have wB := nodup_len W B ndW hWB
      refine ⟨z.1, _, rfl, SqT.of (s3 _ _ (hp.2 z mz)), rfl, _, _, rfl, _, _, rfl, rfl, ?_⟩
      refine ⟨_, rfl, _, rfl, rfl, _, rfl, ite2 (fun e1 => ?_) fun e1 => ?_⟩
      · refine ⟨_, rfl, .ref fo, rfl, fo, _, rfl, dgetO (Rd.of hf3), _, rfl, ?_⟩
        rw [val_some]
        by_cases md : z.2.2 ∈ W
        · rw [decide_eq_true md]
          exact iteF ⟨_, _, W, X, rfl, ⟨s3, hf3, hw3, ndW, hWB, XW⟩, hμ⟩
        · rw [decide_eq_false md]
          refine iteT ⟨.ref fo, rfl, .str z.2.2, rfl, fo, _, rfl, dputN hf3 md (by omega), ?_⟩
          have s4 := s3.mut (o := .dK (kvs (W ++ [z.2.2]) (gset (fun _ => V.bl true) z.2.2 (.bl true)))) hfo
          refine ⟨.ref wt, rfl, .inl ⟨rfl, _, SqL.of (by rw [upd_ne fw.symm]; exact hw3)⟩, _, rfl, wt, _, _, rfl, rfl, by rw [upd_ne fw.symm]; exact hw3, sz_lt (by rw [List.length_map]; omega), ?_⟩
          refine ⟨_, _, W ++ [z.2.2], X ++ [z.2.2], rfl, ⟨s4.mut n0, ?_, ?_, List.nodup_append.mpr ⟨ndW, by simp, fun x hx y hy e => md (by rw [← List.mem_singleton.mp hy, ← e]; exact hx)⟩, fun x hx => ?_, ?_⟩, ?_⟩
          · rw [upd_ne fw, upd_same]
            refine congrArg (fun z => some (HO.dK z)) (kvs_congr fun m _ => ?_)
            unfold gset
            split <;> rfl
          · rw [upd_same, List.map_append]
            rfl
          · rcases List.mem_append.mp hx with h | h
            · exact hWB x h
            · rw [List.mem_singleton.mp h]
              exact List.mem_append_right _ (List.mem_map.mpr ⟨z, mz, rfl⟩)
          · rw [List.length_append, List.length_append]
            show X.length + 1 ≤ W.length + 1
            omega
          · have lW : (W ++ [z.2.2]).length = W.length + 1 := by rw [List.length_append]; rfl
            have lX : (X ++ [z.2.2]).length = X.length + 1 := by rw [List.length_append]; rfl
            rw [lW, lX]
            omega
      · exact ⟨_, _, W, X, rfl, ⟨s3, hf3, hw3, ndW, hWB, XW⟩, hμ⟩
    · rintro σ H3 ⟨y5, y6, W, X, rfl, iv, hμ⟩
      have wB := nodup_len W B iv.2.2.2.1 iv.2.2.2.2.1
      exact ⟨2 * B.length + X.length - 2 * W.length, by omega, _, _, _, W, X, rfl, iv, by omega⟩
end
end Ms
set_option Elab.async false
set_option linter.all false
set_option maxRecDepth 100000
set_option maxHeartbeats 4000000
/-! The least that is missing. -/
namespace Ms
open PySem PySem.Spec PyProof.Rows L2
/-! ### a dict that may be locked already -/
def tLockEO (t : TE) : TE := fun σ H Q => tLockE t σ H Q ∨ t σ H Q
theorem pe_lockO {X : Cx} {e : Expr} {t : TE} (h : PE X e t) : PE X e (tLockEO t) := ⟨fun pins s σ H Q I hw => hw.elim ((pe_lock h).run pins s σ H Q I) (h.run pins s σ H Q I)⟩
def tLockO (t : TS) : TS := fun D σ H => tLock t D σ H ∨ t D σ H
theorem ps_lockO {X : Cx} {st : Stmt} {t : TS} (h : PS X st t) : PS X st (tLockO t) := ⟨fun pins s σ H D I hw => hw.elim ((ps_lock h).run pins s σ H D I) (h.run pins s σ H D I)⟩
theorem lockE_by {t : TE} {σ : L2.St} {H : Hp} {Q : VK} {d : Addr} {u : HO} (rd : Rd H d u) (mu : Mut (some u))
    (h : ∀ (o : Obj) (Hf : Hp) (R : VK), Hf d = some (.frz o u) → (∀ b, b ≠ d → Hf b = H b) → (∀ v H', H' d = some (.frz o u) → (∀ Hu : Hp, Hu d = H d → (∀ b, b ≠ d → Hu b = H' b) → Q v Hu) → R v H') → t σ Hf R) : tLockEO t σ H Q := by
  rcases rd with e | ⟨o, e⟩
  · refine .inl ⟨d, u, e, mu, fun od => h od _ _ upd_same (fun b n => upd_ne n) fun v H' e' k => ⟨e', k _ ?_ fun b n => upd_ne n⟩⟩
    rw [upd_same, e]
  · exact .inr (h o H Q e (fun b _ => rfl) fun v H' e' k => k H' (by rw [e', e]) fun b _ => rfl)
theorem lockS_by {t : TS} {D : L2.Ends} {σ : L2.St} {H : Hp} {d : Addr} {u : HO} (rd : Rd H d u) (mu : Mut (some u))
    (h : ∀ (o : Obj) (Hf : Hp) (D' : L2.Ends), Hf d = some (.frz o u) → (∀ b, b ≠ d → Hf b = H b) → (∀ σ' H', H' d = some (.frz o u) → (∀ Hu : Hp, Hu d = H d → (∀ b, b ≠ d → Hu b = H' b) → D.nx σ' Hu) → D'.nx σ' H') → t D' σ Hf) : tLockO t D σ H := by
  rcases rd with e | ⟨o, e⟩
  · refine .inl ⟨d, u, e, mu, fun od => h od _ _ upd_same (fun b n => upd_ne n) fun σ' H' e' k => ⟨e', k _ ?_ fun b n => upd_ne n⟩⟩
    rw [upd_same, e]
  · exact .inr (h o H D e (fun b _ => rfl) fun σ' H' e' k => k H' (by rw [e', e]) fun b _ => rfl)
theorem same_un {H Hf H' Hu : Hp} {d : Addr} (h1 : ∀ b, b ≠ d → Hf b = H b) (s : Same Hf H') (h2 : Hu d = H d) (h3 : ∀ b, b ≠ d → Hu b = H' b) : Same H Hu := fun b o e => by
  by_cases c : b = d
  · rw [c, h2, ← c]
    exact e
  · rw [h3 b c]
    exact s b o ((h1 b c).trans e)
theorem rd_ne {H : Hp} {a q : Addr} {u : HO} (r : Rd H a u) (h : H q = none) : q ≠ a := fun e => by
  rcases r with r | ⟨o, r⟩ <;> rw [← e, h] at r <;> cases r
section
variable {P : Program} {w : World} {K : PySem.W.Frag} {mg : Str → Option Value} {base : Heap} {C CM CR : Addr}
/-! ### leading_to, led_from -/
abbrev s_leading_to : Stmt := topS 24
abbrev N_leading_to : List Str := ["lines", "limits", "flows", "ends", "pairs", "arc"]
theorem sc_leading_to : FnScope N_leading_to ["lines", "limits", "flows", "ends"] (defScope s_leading_to) := ⟨rfl, rfl, rfl, by decide +kernel, rfl, by decide +kernel, by decide +kernel⟩
def spLead : Sp := fun vs H Q _ => ∃ (la li fl ea : Addr) (ls lm lf es : List Str) (tl hd : Str → Str) (lo hi f : Str → Int), vs = [.ref la, .ref li, .ref fl, .ref ea] ∧ LinAt H la ls tl hd ∧ LimAt H li lm lo hi ∧ FlAt H fl lf f ∧ (∀ n ∈ ls, n ∈ lm ∧ n ∈ lf) ∧ ls.length ≤ 24 ∧
  H ea = some (.lst (es.map V.str)) ∧ es.Nodup ∧ es.length ≤ 24 ∧ ∀ H' r W, Same H H' → H r = none → H' r = some (.dK (kvs W fun _ => V.bl true)) → Q (.ref r) H'
theorem pr_grow {H : Hp} {D q : Addr} {ps : List (Addr × Str × Str)} {a b : Str} (o : HO) (hD : ∃ xs, H D = some (.lst xs)) (h : ∀ z ∈ ps, H z.1 = some (.tup [.str z.2.1, .str z.2.2])) (hq : H q = none) :
    ∀ z ∈ ps ++ [(q, a, b)], upd (upd H q (.tup [.str a, .str b])) D o z.1 = some (.tup [.str z.2.1, .str z.2.2]) := fun z hz => by
  obtain ⟨xs, hD⟩ := hD
  rcases List.mem_append.mp hz with m | m
  · have e := h z m
    rw [upd_ne (fun x => by rw [x, hD] at e; cases e), upd_ne (ne_of_none e hq)]
    exact e
  · rw [List.mem_singleton.mp m]
    show upd (upd H q _) D o q = _
    rw [upd_ne (ne_of_none hD hq).symm, upd_same]
theorem ok_leading_to (T : Txt K mg C CM CR) {f : Addr} {fd : FuncData} (D : DefIn K mg "leading_to" s_leading_to f fd) (c_arcs_of : Cal P w K mg base 1 "arcs_of" spArcs) (c_come_to : Cal P w K mg base 1 "come_to" spCome) : Cal P w K mg base 2 "leading_to" spLead := by
  refine cal_of (N := N_leading_to) D (ps := ["lines", "limits", "flows", "ends"]) (fun _ _ _ _ _ _ us hl => match us, hl with | [_, _, _, _], _ => rfl) sc_leading_to (fun vs H Q E h => ?_) (fun cdv A outer s H vs Q E hr h => ?_)
  · obtain ⟨la, li, fl, ea, ls, lm, lf, es, tl, hd, lo, hi, f, rfl, _⟩ := h
    rfl
  have hu := hu_of hr
  obtain ⟨la, li, fl, ea, ls, lm, lf, es, tl, hd, lo, hi, f, rfl, hla, hli, hfl, hin, l24, he, nd, e24, q⟩ := h
  refine ⟨_, (pss_cons (ps_setLc (i := 4) (own := [("arc", 5)]) (by rfl) sc_leading_to.nd rfl rfl (sw_true rfl rfl rfl (by decide +kernel)) (pi_list (pe_c c_arcs_of hr (by decide) (by rfl) (pa_cons (pv 0) (pa_cons (pv 1) (pa_cons (pv 2) pa_nil))))) (blkOk_by (own := [("arc", 5)]) (N := N_leading_to) (sc := defScope s_leading_to) (by decide +kernel)) (fun _ _ _ _ _ => (pg_name (i := 5) sc_leading_to.nd rfl (by first | exact Or.inl rfl | exact Or.inr rfl))) (fun _ _ _ _ _ => pts_nil) (fun _ _ _ _ _ => (pe_tup (pa_cons (pe_ix (ix_tK (K := K) rfl) (pv 5) pe_int (fun _ _ => rfl)) (pa_cons (pe_ix (ix_tK (K := K) rfl) (pv 5) pe_int (fun _ _ => rfl)) pa_nil)))))
      (pss_one (ps_ret (pe_c c_come_to hr (by decide) (by rfl) (pa_cons (pv 4) (pa_cons (pv 3) pa_nil)))))), ?_⟩
  refine ⟨.ref la, rfl, .ref li, rfl, .ref fl, rfl, la, li, fl, ls, lm, lf, tl, hd, lo, hi, f, rfl, hla, hli, Rd.of hfl, hin, l24, fun H1 r zs s1 nr hz ez => ⟨r, rfl, ⟨_, SqL.of hz.1⟩, fun D hD => ?_⟩⟩
  have zl : zs.length ≤ 50 := by
    have a1 := arcs_len tl hd lo hi f ls
    rw [← ez, List.length_map] at a1
    omega
  refine lc_it (walk_list (xs := zs.map fun z => V.ref z.1)) (LcP H1 D fun i acc H' => ∃ ps : List (Addr × Str × Str), acc = ps.map (fun z => V.ref z.1) ∧ ps.length = i ∧ ∀ z ∈ ps, H' z.1 = some (.tup [.str z.2.1, .str z.2.2])) (LcP.start hD ⟨[], rfl, rfl, fun z h => (nomatch h)⟩) (fun i H' _ z => SqL.of (z.1 _ _ hz.1)) ?_ ?_
  · rintro i v H2 H3 hi2 ⟨s2, acc, hc, ps, rfl, rfl, hps⟩ ⟨rfl, hv⟩
    obtain ⟨z, rfl, hzi⟩ := get_map hv
    have tz := s2 _ _ (hz.2 z (List.mem_of_getElem? hzi))
    rw [List.length_map] at hi2
    refine ⟨rfl, _, rfl, z.1, _, 1, .str z.2.dst, rfl, rfl, SqT.of tz, rfl, _, rfl, z.1, _, 0, .str z.2.src, rfl, rfl, SqT.of tz, rfl, by show 2 ≤ sizeLine; decide, fun q2 hq2 => LcP.put hD (s2.trans (same_upd hq2)) (same_upd hq2 _ _ hc) (sz_lt ?_) ?_⟩
    · rw [List.length_map]
      omega
    · refine ⟨ps ++ [(q2, z.2.dst, z.2.src)], ?_, ?_, pr_grow _ ⟨_, hc⟩ hps hq2⟩
      · rw [List.map_append]
        rfl
      · rw [List.length_append]
        rfl
  · rintro H2 ⟨s2, acc, hc, ps, rfl, hl, hps⟩
    rw [List.length_map] at hl
    have s12 := s1.trans s2
    refine ⟨.ref D, rfl, .ref ea, rfl, D, ea, ps, es, rfl, ⟨hc, hps⟩, s12 _ _ he, nd, e24, by omega, fun H' r W s3 nr hr => q H' r W (s12.trans s3) (s12.free nr) hr⟩
abbrev s_led_from : Stmt := topS 25
abbrev N_led_from : List Str := ["lines", "limits", "flows", "starts", "pairs", "arc"]
theorem sc_led_from : FnScope N_led_from ["lines", "limits", "flows", "starts"] (defScope s_led_from) := ⟨rfl, rfl, rfl, by decide +kernel, rfl, by decide +kernel, by decide +kernel⟩
theorem ok_led_from (T : Txt K mg C CM CR) {f : Addr} {fd : FuncData} (D : DefIn K mg "led_from" s_led_from f fd) (c_arcs_of : Cal P w K mg base 1 "arcs_of" spArcs) (c_come_to : Cal P w K mg base 1 "come_to" spCome) : Cal P w K mg base 2 "led_from" spLead := by
  refine cal_of (N := N_led_from) D (ps := ["lines", "limits", "flows", "starts"]) (fun _ _ _ _ _ _ us hl => match us, hl with | [_, _, _, _], _ => rfl) sc_led_from (fun vs H Q E h => ?_) (fun cdv A outer s H vs Q E hr h => ?_)
  · obtain ⟨la, li, fl, ea, ls, lm, lf, es, tl, hd, lo, hi, f, rfl, _⟩ := h
    rfl
  have hu := hu_of hr
  obtain ⟨la, li, fl, ea, ls, lm, lf, es, tl, hd, lo, hi, f, rfl, hla, hli, hfl, hin, l24, he, nd, e24, q⟩ := h
  refine ⟨_, (pss_cons (ps_setLc (i := 4) (own := [("arc", 5)]) (by rfl) sc_led_from.nd rfl rfl (sw_true rfl rfl rfl (by decide +kernel)) (pi_list (pe_c c_arcs_of hr (by decide) (by rfl) (pa_cons (pv 0) (pa_cons (pv 1) (pa_cons (pv 2) pa_nil))))) (blkOk_by (own := [("arc", 5)]) (N := N_led_from) (sc := defScope s_led_from) (by decide +kernel)) (fun _ _ _ _ _ => (pg_name (i := 5) sc_led_from.nd rfl (by first | exact Or.inl rfl | exact Or.inr rfl))) (fun _ _ _ _ _ => pts_nil) (fun _ _ _ _ _ => (pe_tup (pa_cons (pe_ix (ix_tK (K := K) rfl) (pv 5) pe_int (fun _ _ => rfl)) (pa_cons (pe_ix (ix_tK (K := K) rfl) (pv 5) pe_int (fun _ _ => rfl)) pa_nil)))))
      (pss_one (ps_ret (pe_c c_come_to hr (by decide) (by rfl) (pa_cons (pv 4) (pa_cons (pv 3) pa_nil)))))), ?_⟩
  refine ⟨.ref la, rfl, .ref li, rfl, .ref fl, rfl, la, li, fl, ls, lm, lf, tl, hd, lo, hi, f, rfl, hla, hli, Rd.of hfl, hin, l24, fun H1 r zs s1 nr hz ez => ⟨r, rfl, ⟨_, SqL.of hz.1⟩, fun D hD => ?_⟩⟩
  have zl : zs.length ≤ 50 := by
    have a1 := arcs_len tl hd lo hi f ls
    rw [← ez, List.length_map] at a1
    omega
  refine lc_it (walk_list (xs := zs.map fun z => V.ref z.1)) (LcP H1 D fun i acc H' => ∃ ps : List (Addr × Str × Str), acc = ps.map (fun z => V.ref z.1) ∧ ps.length = i ∧ ∀ z ∈ ps, H' z.1 = some (.tup [.str z.2.1, .str z.2.2])) (LcP.start hD ⟨[], rfl, rfl, fun z h => (nomatch h)⟩) (fun i H' _ z => SqL.of (z.1 _ _ hz.1)) ?_ ?_
  · rintro i v H2 H3 hi2 ⟨s2, acc, hc, ps, rfl, rfl, hps⟩ ⟨rfl, hv⟩
    obtain ⟨z, rfl, hzi⟩ := get_map hv
    have tz := s2 _ _ (hz.2 z (List.mem_of_getElem? hzi))
    rw [List.length_map] at hi2
    refine ⟨rfl, _, rfl, z.1, _, 0, .str z.2.src, rfl, rfl, SqT.of tz, rfl, _, rfl, z.1, _, 1, .str z.2.dst, rfl, rfl, SqT.of tz, rfl, by show 2 ≤ sizeLine; decide, fun q2 hq2 => LcP.put hD (s2.trans (same_upd hq2)) (same_upd hq2 _ _ hc) (sz_lt ?_) ?_⟩
    · rw [List.length_map]
      omega
    · refine ⟨ps ++ [(q2, z.2.src, z.2.dst)], ?_, ?_, pr_grow _ ⟨_, hc⟩ hps hq2⟩
      · rw [List.map_append]
        rfl
      · rw [List.length_append]
        rfl
  · rintro H2 ⟨s2, acc, hc, ps, rfl, hl, hps⟩
    rw [List.length_map] at hl
    have s12 := s1.trans s2
    refine ⟨.ref D, rfl, .ref ea, rfl, D, ea, ps, es, rfl, ⟨hc, hps⟩, s12 _ _ he, nd, e24, by omega, fun H' r W s3 nr hr => q H' r W (s12.trans s3) (s12.free nr) hr⟩
/-! ### check_limits, crossed, missing_of -/
abbrev s_check_limits : Stmt := topS 29
abbrev N_check_limits : List Str := ["plant", "limits", "name"]
theorem sc_check_limits : FnScope N_check_limits ["plant", "limits"] (defScope s_check_limits) := ⟨rfl, rfl, rfl, by decide +kernel, rfl, by decide +kernel, by decide +kernel⟩
def spChkLim (C : Addr) : Sp := fun vs H Q _ => ∃ (a li : Addr) (p : Pl) (ls : List Str) (lo hi : Str → Int), vs = [.ref a, .ref li] ∧ PlAt C H a p ∧ PlOk p ∧ LimAt H li ls lo hi ∧ ls.Perm p.ns ∧ ∀ H', Same H H' → Q .non H'
theorem ok_check_limits (T : Txt K mg C CM CR) {f : Addr} {fd : FuncData} (D : DefIn K mg "check_limits" s_check_limits f fd) (c_lacks : Cal P w K mg base 3 "lacks" (spLacks C)) : Cal P w K mg base 4 "check_limits" (spChkLim C) := by
  refine cal_of (N := N_check_limits) D (ps := ["plant", "limits"]) (fun _ _ _ _ _ _ us hl => match us, hl with | [_, _], _ => rfl) sc_check_limits (fun vs H Q E h => ?_) (fun cdv A outer s H vs Q E hr h => ?_)
  · obtain ⟨a, li, p, ls, lo, hi, rfl, _⟩ := h
    rfl
  have hu := hu_of hr
  obtain ⟨a, li, p, ls, lo, hi, rfl, hp, F, ⟨t, rd, ht⟩, pm, q⟩ := h
  refine ⟨_, (pss_one (ps_expr (pe_c c_lacks hr (by decide) (by rfl) (pa_cons (pv 0) (pa_cons (pe_lockO (pe_dc (own := [("name", 2)]) (by rfl) sc_check_limits.nd (pi_keys (pv 1)) (blkOk_by (own := [("name", 2)]) (N := N_check_limits) (sc := defScope s_check_limits) (by decide +kernel)) (fun _ _ _ _ _ => (pg_name (i := 2) sc_check_limits.nd rfl (by first | exact Or.inl rfl | exact Or.inr rfl))) (fun _ _ _ _ _ => pts_nil) (fun _ _ _ _ _ => (pv 2)) (fun _ _ _ _ _ => pe_int))) pa_nil))))), ?_⟩
  have nd : ls.Nodup := pm.nodup_iff.mpr F.nd
  have l24 : ls.length ≤ 24 := by
    rw [pm.length_eq]
    exact F.nl
  refine ⟨.ref a, rfl, lockE_by rd trivial fun o Hf R h1 h2 hR => ⟨.ref li, rfl, li, o, rfl, .inl ⟨_, h1, fun D hD => ?_⟩⟩⟩
  refine dc_it walk_keys (fun i H' => Same Hf H' ∧ H' D = some (.dK (kvs (ls.take i) (gI fun _ => 0)))) ⟨same_upd hD, upd_same⟩ (fun i H' _ z => z.1 _ _ h1) ?_ ?_
  · rintro i v H3 H4 hi ⟨s3, h3⟩ ⟨rfl, k, v2, hv, rfl⟩
    obtain ⟨x, hx, rfl, _⟩ := kvs_get hv
    rw [kvs_len] at hi
    refine ⟨rfl, _, rfl, _, Sum.inr x, rfl, h3, sz_lt ?_, s3.mut hD, ?_⟩
    · rw [kvs_len, List.length_take]
      omega
    · rw [upd_same, List.take_add_one, hx, put_new (take_new nd hx)]
      refine congrArg (fun z => some (HO.dK z)) (kvs_congr fun m _ => ?_)
      unfold gset gI
      split <;> rfl
  · rintro H3 ⟨s3, h3⟩
    rw [kvs_len, List.take_length] at h3
    refine hR _ _ (s3 _ _ h1) fun Hu u1 u2 => ?_
    have su := same_un h2 s3 u1 u2
    have nD : D ≠ li := fun z => by rw [z, h1] at hD; cases hD
    refine ⟨a, D, p, ls, fun _ => 0, rfl, hp.same su, F, Rd.of (by rw [u2 D nD]; exact h3), pm, fun H' r s4 _ _ => q H' (su.trans s4)⟩
abbrev s_crossed : Stmt := topS 30
abbrev N_crossed : List Str := ["plant", "limits", "name"]
theorem sc_crossed : FnScope N_crossed ["plant", "limits"] (defScope s_crossed) := ⟨rfl, rfl, rfl, by decide +kernel, rfl, by decide +kernel, by decide +kernel⟩
def spCrossed (C : Addr) : Sp := fun vs H Q _ => ∃ (a li : Addr) (p : Pl) (ls : List Str) (lo hi : Str → Int), vs = [.ref a, .ref li] ∧ PlAt C H a p ∧ PlOk p ∧ LimAt H li ls lo hi ∧ ls.Perm p.ns ∧
  (∀ H', Same H H' → (∀ n ∈ p.ns, lo n ≤ hi n) → Q .non H') ∧ ∀ H' n, Same H H' → n ∈ p.ns → hi n < lo n → Q (.str n) H'
theorem ok_crossed (T : Txt K mg C CM CR) {f : Addr} {fd : FuncData} (D : DefIn K mg "crossed" s_crossed f fd) (c_check_limits : Cal P w K mg base 4 "check_limits" (spChkLim C)) (m_stream_names : Met P w K mg base 1 C "stream_names" (spSNames C)) : Cal P w K mg base 5 "crossed" (spCrossed C) := by
  refine cal_of (N := N_crossed) D (ps := ["plant", "limits"]) (fun _ _ _ _ _ _ us hl => match us, hl with | [_, _], _ => rfl) sc_crossed (fun vs H Q E h => ?_) (fun cdv A outer s H vs Q E hr h => ?_)
  · obtain ⟨a, li, p, ls, lo, hi, rfl, _⟩ := h
    rfl
  have hu := hu_of hr
  obtain ⟨a, li, p, ls, lo, hi, rfl, hp, F, hl, pm, q0, q1⟩ := h
  refine ⟨_, (pss_cons (ps_expr (pe_c c_check_limits hr (by decide) (by rfl) (pa_cons (pv 0) (pa_cons (pv 1) pa_nil))))
      (pss_cons (ps_for PassesOwn.never rfl (pi_list (pe_m0 m_stream_names hr (by decide) (pv 0))) (pg_name (i := 2) sc_crossed.nd rfl (by first | exact Or.inl rfl | exact Or.inr rfl))
      (pss_one (ps_if (pt_cmpR op_gt (pe_ix ix_tup (pe_dget hu (pv 1) (pv 2) (fun _ _ => rfl)) pe_int (fun _ _ => rfl)) (pe_ix ix_tup (pe_dget hu (pv 1) (pv 2) (fun _ _ => rfl)) pe_int (fun _ _ => rfl)) (nomark _)) (pss_one (ps_ret (pv 2))) pss_nil)))
      (pss_one (ps_ret pe_non)))), ?_⟩
  refine ⟨.ref a, rfl, .ref li, rfl, a, li, p, ls, lo, hi, rfl, hp, F, hl, pm, fun H1 s1 => ?_⟩
  have hp1 := hp.same s1
  obtain ⟨dx, k, s0, e1⟩ := plAt_ins hp1
  refine ⟨.ref a, rfl, a, dx, _, rfl, e1, no_sn _ _, a, p, rfl, hp1, F, fun H2 r s2 nr hr2 => ?_⟩
  have s12 := s1.trans s2
  refine ⟨r, rfl, ⟨_, SqL.of hr2⟩, for_list (K := K) (a := r) (xs := p.ns.map V.str) (fun i σ H' => ∃ y, σ = [some (.ref a), some (.ref li), y] ∧ H' = H2 ∧ ∀ n ∈ p.ns.take i, lo n ≤ hi n) ⟨none, rfl, rfl, fun n h => (nomatch h)⟩ (fun i σ H' _ z => by obtain ⟨_, _, rfl, _⟩ := z; exact SqL.of hr2) ?_ ?_⟩
  · rintro i v σ H' hv ⟨y, rfl, rfl, hle⟩
    obtain ⟨n, rfl, hn⟩ := get_str hv
    have mn := List.mem_of_getElem? hn
    obtain ⟨t, rd, ht⟩ := hl.same s12
    have ml := pm.mem_iff.mpr mn
    have tn := ht n ml
    refine ⟨.ref li, rfl, .str n, rfl, li, _, rfl, dget rd ml, t n, _, 0, .int (lo n), rfl, rfl, SqT.of tn, rfl, .ref li, rfl, .str n, rfl, li, _, rfl, dget rd ml, t n, _, 1, .int (hi n), rfl, rfl, SqT.of tn, rfl, lo n, hi n, rfl, rfl, _, rfl, ?_⟩
    by_cases c : hi n < lo n
    · exact iteD c ⟨_, rfl, q1 _ n s12 mn c⟩
    · refine iteDF c ⟨_, rfl, rfl, fun m hm => ?_⟩
      rw [List.take_add_one, hn] at hm
      rcases List.mem_append.mp hm with h | h
      · exact hle m h
      · have e : m = n := by simpa using h
        subst e
        omega
  · rintro σ H' ⟨y, rfl, rfl, hle⟩
    rw [List.length_map, List.take_length] at hle
    exact q0 _ s12 hle
abbrev s_missing_of : Stmt := topS 31
abbrev N_missing_of : List Str := ["plant", "flows", "number"]
theorem sc_missing_of : FnScope N_missing_of ["plant", "flows"] (defScope s_missing_of) := ⟨rfl, rfl, rfl, by decide +kernel, rfl, by decide +kernel, by decide +kernel⟩
def spMissOf (C : Addr) : Sp := fun vs H Q _ => ∃ (a fl : Addr) (p : Pl) (ls : List Str) (f : Str → Int), vs = [.ref a, .ref fl] ∧ PlAt C H a p ∧ PlOk p ∧ Rd H fl (.dK (kvs ls (gI f))) ∧ ls.Perm p.ns ∧ ∀ H', Same H H' → Q (.int (miss p.tl p.hd p.ns p.ks f)) H'
theorem ok_missing_of (T : Txt K mg C CM CR) {f : Addr} {fd : FuncData} (D : DefIn K mg "missing_of" s_missing_of f fd) (c_lacks : Cal P w K mg base 3 "lacks" (spLacks C)) : Cal P w K mg base 4 "missing_of" (spMissOf C) := by
  refine cal_of (N := N_missing_of) D (ps := ["plant", "flows"]) (fun _ _ _ _ _ _ us hl => match us, hl with | [_, _], _ => rfl) sc_missing_of (fun vs H Q E h => ?_) (fun cdv A outer s H vs Q E hr h => ?_)
  · obtain ⟨a, fl, p, ls, f, rfl, _⟩ := h
    rfl
  have hu := hu_of hr
  obtain ⟨a, fl, p, ls, f, rfl, hp, F, rd, pm, q⟩ := h
  refine ⟨_, (pss_one (ps_ret (pe_callB (cr_sum rfl) (by rfl) T.sum (by decide +kernel) (pa_cons (pe_lc (own := [("number", 2)]) (by rfl) sc_missing_of.nd (pi_values (pe_freeze (pe_c c_lacks hr (by decide) (by rfl) (pa_cons (pv 0) (pa_cons (pv 1) pa_nil))))) (blkOk_by (own := [("number", 2)]) (N := N_missing_of) (sc := defScope s_missing_of) (by decide +kernel)) (fun _ _ _ _ _ => (pg_name (i := 2) sc_missing_of.nd rfl (by first | exact Or.inl rfl | exact Or.inr rfl))) (fun _ _ _ _ _ => pts_nil) (fun _ _ _ _ _ => (pe_callB (call_max2 rfl) (by rfl) T.max (by decide +kernel) (pa_cons pe_int (pa_cons (pe_un un_neg (pv 2)) pa_nil))))) pa_nil)))), ?_⟩
  refine ⟨.ref a, rfl, .ref fl, rfl, a, fl, p, ls, f, rfl, hp, F, rd, pm, fun H1 r s1 nr hr1 => ⟨r, _, rfl, hr1, trivial, fun od => ⟨r, od, _, rfl, upd_same, fun D hD => ?_⟩⟩⟩
  let u : Str → Int := fun k => if 0 < -(net p.tl p.hd p.ns f k) then -(net p.tl p.hd p.ns f k) else 0
  have kl := F.kl
  refine lc_it walk_values (LcP _ D fun i acc _ => acc = (p.ks.take i).map fun k => V.int (u k)) (LcP.start hD rfl) (fun i H' _ z => z.1 _ _ upd_same) ?_ ?_
  · rintro i v H2 H3 hi ⟨s2, acc, hc, rfl⟩ ⟨rfl, k, hv⟩
    obtain ⟨x, hx, rfl, rfl⟩ := kvs_get hv
    rw [kvs_len] at hi
    refine ⟨rfl, _, rfl, _, rfl, 0, _, rfl, LcP.put hD s2 hc (sz_lt ?_) ?_⟩
    · rw [List.length_map, List.length_take]
      omega
    · rw [List.take_add_one, hx, List.map_append]
      rfl
  · rintro H2 ⟨s2, acc, hc, rfl⟩
    rw [kvs_len, List.take_length] at hc
    refine ⟨D, p.ks.map u, rfl, SqL.of (by rw [List.map_map]; exact hc), ?_⟩
    refine q H2 fun b o e => s2 _ _ ?_
    rw [upd_ne (ne_of_none e nr)]
    exact s1 _ _ e
end
end Ms
set_option Elab.async false
set_option linter.all false
set_option maxRecDepth 100000
set_option maxHeartbeats 4000000
/-! The class Missing, the search for balanced flows. -/
namespace Ms
open PySem PySem.Spec PyProof.Rows L2
theorem flt_put {H1 H3 : Hp} {D : Addr} {ks : List Str} {φ : Str → Bool} {i : Nat} {x : Str} (hD : H1 D = none) (s : Same H1 H3) (hx : ks[i]? = some x) (kl : ks.length ≤ 24) (hc : H3 D = some (.lst (((ks.take i).filter φ).map V.str))) :
    (φ x = true → ∃ acc, H3 D = some (.lst acc) ∧ acc.length < sizeLine ∧ LcP H1 D (fun i acc _ => acc = ((ks.take i).filter φ).map V.str) (i + 1) (upd H3 D (.lst (acc ++ [.str x])))) ∧
      (φ x = false → LcP H1 D (fun i acc _ => acc = ((ks.take i).filter φ).map V.str) (i + 1) H3) := by
  have ef : (ks.take (i + 1)).filter φ = (ks.take i).filter φ ++ (if φ x = true then [x] else []) := by
    rw [List.take_add_one, hx, List.filter_append]
    congr 1
    show List.filter _ [x] = _
    rw [List.filter_cons]
    split <;> rfl
  refine ⟨fun e => LcP.put hD s hc (sz_lt ?_) ?_, fun e => ⟨s, _, hc, ?_⟩⟩
  · rw [List.length_map]
    have h1 := List.length_filter_le φ (ks.take i)
    have h2 : (ks.take i).length ≤ ks.length := List.length_take_le' i ks
    omega
  · rw [ef, if_pos e, List.map_append]
    rfl
  · show _ = ((ks.take (i + 1)).filter φ).map V.str
    rw [ef, if_neg (by rw [e]; exact Bool.false_ne_true), List.append_nil]
section
variable {P : Program} {w : World} {K : PySem.W.Frag} {mg : Str → Option Value} {base : Heap} {C CM CR : Addr}
/-! ### Missing -/
abbrev s_Missing___init__ : Stmt := inClass (topS 28) 0
abbrev N_Missing___init__ : List Str := ["self", "number", "flows", "least", "greatest"]
theorem sc_Missing___init__ : FnScope N_Missing___init__ ["self", "number", "flows", "least", "greatest"] (defScope s_Missing___init__) := ⟨rfl, rfl, rfl, by decide +kernel, rfl, by decide +kernel, by decide +kernel⟩
def msF (n : V) (d l g : Addr) : List (Str × V) := putF "greatest" (.ref g) (putF "least" (.ref l) (putF "flows" (.ref d) (putF "number" n [])))
theorem msF_n (n : V) (d l g : Addr) : (msF n d l g).lookup ("number" : Str) = some n := by
  unfold msF
  rw [lookup_putF, if_neg (by decide +kernel), lookup_putF, if_neg (by decide +kernel), lookup_putF, if_neg (by decide +kernel), lookup_putF, if_pos rfl]
theorem msF_f (n : V) (d l g : Addr) : (msF n d l g).lookup ("flows" : Str) = some (.ref d) := by
  unfold msF
  rw [lookup_putF, if_neg (by decide +kernel), lookup_putF, if_neg (by decide +kernel), lookup_putF, if_pos rfl]
def spMissing (CM : Addr) : Sp := fun vs H Q _ => ∃ (x dx fl la ga : Addr) (n : Int) (ls : List (Key × V)) (xs ys : List V), vs = [.ref x, .int n, .ref fl, .ref la, .ref ga] ∧ H x = some (.ins CM dx []) ∧ Rd H fl (.dK ls) ∧ H la = some (.lst xs) ∧ H ga = some (.lst ys) ∧
  ∀ H' d l g, But x H H' → H d = none → H' d = some (.dK ls) → H' x = some (.ins CM dx (msF (.int n) d l g)) → Q .non H'
theorem ok_missing (T : Txt K mg C CM CR) {f : Addr} {fd : FuncData} (hm : mg "Missing" = some (.ref CM)) (mk : PySem.W.makesIn K CM = true) (kc : PySem.W.keepIn K (.ref CM) = true) (D : MethIn K CM "__init__" "Missing.__init__" s_Missing___init__ f fd) : Mak P w K mg base 1 "Missing" CM (spMissing CM) := by
  refine mak_of (N := N_Missing___init__) hm mk kc D (ps := ["self", "number", "flows", "least", "greatest"]) (fun _ _ _ _ _ _ us hl => match us, hl with | [_, _, _, _, _], _ => rfl) sc_Missing___init__ (fun vs H Q E h => ?_) (fun cdv A outer s H vs Q E hr h => ?_)
  · obtain ⟨x, dx, fl, la, ga, n, ls, xs, ys, rfl, _⟩ := h
    rfl
  have hu := hu_of hr
  obtain ⟨x, dx, fl, la, ga, n, ls, xs, ys, rfl, hx, hf, hl, hg, q⟩ := h
  have n1 : fl ≠ x := fun z => by
    rw [z] at hf
    rcases hf with e | ⟨o, e⟩ <;> rw [hx] at e <;> cases e
  have n2 : la ≠ x := fun z => by rw [z, hx] at hl; cases hl
  have n3 : ga ≠ x := fun z => by rw [z, hx] at hg; cases hg
  refine ⟨_, (pss_cons (ps_fld (pv 0) (pv 1) rfl)
      (pss_cons (ps_fld (pv 0) (pe_callTy call_dictD (by rfl) T.dict (by decide +kernel) (pa_cons (pv 2) pa_nil)) rfl)
      (pss_cons (ps_fld (pv 0) (pe_callTy call_list_of (by rfl) T.list (by decide +kernel) (pa_cons (pv 3) pa_nil)) rfl)
      (pss_one (ps_fld (pv 0) (pe_callTy call_list_of (by rfl) T.list (by decide +kernel) (pa_cons (pv 4) pa_nil)) rfl))))), ?_⟩
  refine ⟨_, rfl, _, rfl, x, CM, dx, [], rfl, hx, T.clM, T.nNu, (by show 0 < 1000; decide), ?_⟩
  have b1 : But x H (upd H x (.ins CM dx (putF "number" (.int n) []))) := But.upd _ _
  refine ⟨_, rfl, fl, ls, rfl, b1.rd n1 hf, fun d hd => ?_⟩
  have b2 := b1.trans (same_upd (o := .dK ls) hd).but
  have xd : x ≠ d := ne_of_none upd_same hd
  refine ⟨_, rfl, x, CM, dx, _, rfl, (by rw [upd_ne xd]; exact upd_same), T.clM, T.nFl, Nat.lt_of_le_of_lt (length_putF _ _ _) (by show 1 < 1000; decide), ?_⟩
  have b3 := b2.trans (But.upd _ (.ins CM dx (putF "flows" (.ref d) (putF "number" (.int n) []))))
  refine ⟨_, rfl, la, xs, rfl, .inl (SqL.of (b3 _ _ n2 hl)), fun l hl2 => ?_⟩
  have b4 := b3.trans (same_upd (o := .lst xs) hl2).but
  have xl : x ≠ l := ne_of_none upd_same hl2
  refine ⟨_, rfl, x, CM, dx, _, rfl, (by rw [upd_ne xl]; exact upd_same), T.clM, T.nLe, Nat.lt_of_le_of_lt (length_putF _ _ _) (Nat.lt_of_le_of_lt (Nat.succ_le_succ (length_putF _ _ _)) (by show 2 < 1000; decide)), ?_⟩
  have b5 := b4.trans (But.upd _ (.ins CM dx (putF "least" (.ref l) (putF "flows" (.ref d) (putF "number" (.int n) [])))))
  refine ⟨_, rfl, ga, ys, rfl, .inl (SqL.of (b5 _ _ n3 hg)), fun g hg2 => ?_⟩
  have b6 := b5.trans (same_upd (o := .lst ys) hg2).but
  have xg : x ≠ g := ne_of_none upd_same hg2
  refine ⟨_, rfl, x, CM, dx, _, rfl, (by rw [upd_ne xg]; exact upd_same), T.clM, T.nGr, Nat.lt_of_le_of_lt (length_putF _ _ _) (Nat.lt_of_le_of_lt (Nat.succ_le_succ (Nat.le_trans (length_putF _ _ _) (Nat.succ_le_succ (length_putF _ _ _)))) (by show 3 < 1000; decide)), ?_⟩
  have hd0 : H d = none := by
    rw [upd_ne xd.symm] at hd
    exact hd
  have d3 : ∀ (o : HO), upd (upd (upd H x (.ins CM dx (putF "number" (.int n) []))) d (.dK ls)) x o d = some (.dK ls) := fun o => by rw [upd_ne xd.symm, upd_same]
  have dl : d ≠ l := ne_of_none (d3 _) hl2
  have d5 : ∀ (o o' : HO), upd (upd (upd (upd (upd H x (.ins CM dx (putF "number" (.int n) []))) d (.dK ls)) x o) l (.lst xs)) x o' d = some (.dK ls) := fun o o' => by
    rw [upd_ne xd.symm, upd_ne dl]
    exact d3 o
  have dg : d ≠ g := ne_of_none (d5 _ _) hg2
  refine q _ d l g (b6.trans (But.upd _ _)) hd0 ?_ upd_same
  rw [upd_ne xd.symm, upd_ne dg]
  exact d5 _ _
/-! ### least_missing -/
abbrev s_least_missing : Stmt := topS 32
abbrev N_least_missing : List Str := ["plant", "limits", "lines", "flows", "least", "spared", "lots", "left", "over", "short", "way", "name", "knot"]
theorem sc_least_missing : FnScope N_least_missing ["plant", "limits"] (defScope s_least_missing) := ⟨rfl, rfl, rfl, by decide +kernel, rfl, by decide +kernel, by decide +kernel⟩
theorem toNat_less {x y : Int} (h0 : 0 ≤ x) (h : x < y) : x.toNat < y.toNat := by omega
theorem path_first {P : Ar → Prop} {s e : Str} {a : Ar} {w : List Ar} (h : IsPath P s (a :: w) e) : a.src = s := h.1
theorem path_last {P : Ar → Prop} : ∀ {w : List Ar} {s e : Str} {a : Ar}, IsPath P s (w ++ [a]) e → a.dst = e
  | [], _, _, _, h => h.2.2
  | _ :: _, _, _, _, h => path_last h.2.2
def spLeast (C CM : Addr) : Sp := fun vs H Q _ => ∃ (a li : Addr) (p : Pl) (ls : List Str) (lo hi : Str → Int), vs = [.ref a, .ref li] ∧ PlAt C H a p ∧ PlOk p ∧ LimAt H li ls lo hi ∧ ls.Perm p.ns ∧
  (∀ H' n, Same H H' → n ∈ p.ns → hi n < lo n → Q .non H') ∧
  ∀ H' r f fa dx l g, Same H H' → H r = none → H' r = some (.ins CM dx (msF (.int (miss p.tl p.hd p.ns p.ks f)) fa l g)) → FlAt H' fa ls f → H fa = none → Within lo hi p.ns f →
    (∀ g', Within lo hi p.ns g' → Bal p.tl p.hd p.ns p.ks g' → Bal p.tl p.hd p.ns p.ks f) → Q (.ref r) H'
/-- lines' balance is the plant's: loops do not count -/
theorem net_lin {p : Pl} {lo hi f f' : Str → Int} {st en : Str} {m : Int} (nd : p.ns.Nodup) {ws : List Ar} (pa : IsPath (IsArc p.tl p.hd lo hi f p.lin) st ws en) (k : Str) :
    net p.tl p.hd p.ns (pushF f ws m) k = net p.tl p.hd p.ns f k - (if st = k then m else 0) + (if en = k then m else 0) :=
  net_push nd m k f (pa.imp fun a h => h.ends fun n hn => (List.mem_filter.mp hn).1)
theorem shut_lin {p : Pl} {lo hi f : Str → Int} {S : Str → Bool} (h : Shut p.tl p.hd lo hi p.lin f S) : Shut p.tl p.hd lo hi p.ns f S := fun n hn => by
  by_cases c : p.tl n = p.hd n
  · rw [c]
    exact ⟨fun a b => (by rw [a] at b; cases b), fun a b => (by rw [a] at b; cases b)⟩
  · exact h n (List.mem_filter.mpr ⟨hn, decide_eq_true c⟩)
theorem ok_least_missing (T : Txt K mg C CM CR) {f : Addr} {fd : FuncData} (D : DefIn K mg "least_missing" s_least_missing f fd) (c_crossed : Cal P w K mg base 5 "crossed" (spCrossed C)) (c_lines_of : Cal P w K mg base 3 "lines_of" (spLines C)) (c_lacks : Cal P w K mg base 3 "lacks" (spLacks C))
    (p_knots : Prp P w K mg base 1 C "knots" (spKnots C)) (c_arcs_of : Cal P w K mg base 1 "arcs_of" spArcs) (c_way_between : Cal P w K mg base 2 "way_between" spWay) (c_push : Cal P w K mg base 1 "push" spPush) (c_leading_to : Cal P w K mg base 2 "leading_to" spLead)
    (c_led_from : Cal P w K mg base 2 "led_from" spLead) (c_missing_of : Cal P w K mg base 4 "missing_of" (spMissOf C)) (m_Missing : Mak P w K mg base 1 "Missing" CM (spMissing CM)) : Cal P w K mg base 6 "least_missing" (spLeast C CM) := by
  refine cal_of (N := N_least_missing) D (ps := ["plant", "limits"]) (fun _ _ _ _ _ _ us hl => match us, hl with | [_, _], _ => rfl) sc_least_missing (fun vs H Q E h => ?_) (fun cdv A outer s H vs Q E hr h => ?_)
  · obtain ⟨a, li, p, ls, lo, hi, rfl, _⟩ := h
    rfl
  have hu := hu_of hr
  obtain ⟨a, li, p, ls, lo, hi, rfl, hp, F, hl, pm, q0, q1⟩ := h
  refine ⟨_, (pss_cons (ps_if (pt_cmpR op_notN (pe_c c_crossed hr (by decide) (by rfl) (pa_cons (pv 0) (pa_cons (pv 1) pa_nil))) pe_non (nomark _)) (pss_one (ps_ret pe_non)) pss_nil)
      (pss_cons (ps_set (i := 2) sc_least_missing.nd rfl (by first | exact Or.inl rfl | exact Or.inr rfl) (pe_c c_lines_of hr (by decide) (by rfl) (pa_cons (pv 0) pa_nil)))
      (pss_cut (ps_lockO (ps_setDc (i := 3) (own := [("name", 11)]) (by rfl) sc_least_missing.nd rfl rfl (sw_dict rfl rfl rfl (by decide +kernel)) (pi_keys (pv 1)) (blkOk_by (own := [("name", 11)]) (N := N_least_missing) (sc := defScope s_least_missing) (by decide +kernel)) (fun _ _ _ _ _ => (pg_name (i := 11) sc_least_missing.nd rfl (by first | exact Or.inl rfl | exact Or.inr rfl))) (fun _ _ _ _ _ => pts_nil) (fun _ _ _ _ _ => (pv 11)) (fun _ _ _ _ _ => (pe_ix (ix_tK (K := K) rfl) (pe_dget hu (pv 1) (pv 11) (fun _ _ => rfl)) pe_int (fun _ _ => rfl)))))
      (pss_cons (ps_while PassesOwn.never (pt_val pe_bl)
      (pss_cons (ps_set (i := 7) sc_least_missing.nd rfl (by first | exact Or.inl rfl | exact Or.inr rfl) (pe_c c_lacks hr (by decide) (by rfl) (pa_cons (pv 0) (pa_cons (pv 3) pa_nil))))
      (pss_cons (ps_setLc (i := 8) (own := [("knot", 12)]) (by rfl) sc_least_missing.nd rfl rfl (sw_true rfl rfl rfl (by decide +kernel)) (pi_list (pe_p p_knots hr (by decide) (pv 0))) (blkOk_by (own := [("knot", 12)]) (N := N_least_missing) (sc := defScope s_least_missing) (by decide +kernel)) (fun _ _ _ _ _ => (pg_name (i := 12) sc_least_missing.nd rfl (by first | exact Or.inl rfl | exact Or.inr rfl))) (fun _ _ _ _ _ => (pts_one (pt_cmpR op_gt (pe_dget hu (pv 7) (pv 12) (fun _ _ => rfl)) pe_int (nomark _)))) (fun _ _ _ _ _ => (pv 12)))
      (pss_cons (ps_setLc (i := 9) (own := [("knot", 12)]) (by rfl) sc_least_missing.nd rfl rfl (sw_true rfl rfl rfl (by decide +kernel)) (pi_list (pe_p p_knots hr (by decide) (pv 0))) (blkOk_by (own := [("knot", 12)]) (N := N_least_missing) (sc := defScope s_least_missing) (by decide +kernel)) (fun _ _ _ _ _ => (pg_name (i := 12) sc_least_missing.nd rfl (by first | exact Or.inl rfl | exact Or.inr rfl))) (fun _ _ _ _ _ => (pts_one (pt_cmpR op_lt (pe_dget hu (pv 7) (pv 12) (fun _ _ => rfl)) pe_int (nomark _)))) (fun _ _ _ _ _ => (pv 12)))
      (pss_cons (ps_set (i := 10) sc_least_missing.nd rfl (by first | exact Or.inl rfl | exact Or.inr rfl) (pe_c c_way_between hr (by decide) (by rfl) (pa_cons (pe_c c_arcs_of hr (by decide) (by rfl) (pa_cons (pv 2) (pa_cons (pv 1) (pa_cons (pv 3) pa_nil)))) (pa_cons (pv 8) (pa_cons (pv 9) pa_nil)))))
      (pss_cons (ps_if (pt_cmpR op_isN (pv 10) pe_non (nomark _)) (pss_one ps_break) pss_nil)
      (pss_one (ps_expr (pe_c c_push hr (by decide) (by rfl) (pa_cons (pv 3) (pa_cons (pv 10) (pa_cons (pe_callB (call_min2 rfl) (by rfl) T.min (by decide +kernel) (pa_cons (pe_dget hu (pv 7) (pe_ix ix_tup (pe_ix ix_list (pv 10) pe_int (fun _ _ => rfl)) pe_int (fun _ _ => rfl)) (fun _ _ => rfl)) (pa_cons (pe_un un_neg (pe_dget hu (pv 7) (pe_ix ix_tup (pe_ix ix_list (pv 10) (pe_un un_neg pe_int) (fun _ _ => rfl)) pe_int (fun _ _ => rfl)) (fun _ _ => rfl))) pa_nil))) pa_nil))))))))))))
      (pss_cons (ps_set (i := 4) sc_least_missing.nd rfl (by first | exact Or.inl rfl | exact Or.inr rfl) (pe_c c_leading_to hr (by decide) (by rfl) (pa_cons (pv 2) (pa_cons (pv 1) (pa_cons (pv 3) (pa_cons (pv 9) pa_nil))))))
      (pss_cons (ps_set (i := 5) sc_least_missing.nd rfl (by first | exact Or.inl rfl | exact Or.inr rfl) (pe_c c_led_from hr (by decide) (by rfl) (pa_cons (pv 2) (pa_cons (pv 1) (pa_cons (pv 3) (pa_cons (pv 8) pa_nil))))))
      (pss_cons (ps_set (i := 6) sc_least_missing.nd rfl (by first | exact Or.inl rfl | exact Or.inr rfl) (pe_lst (pa_cons (pe_lc (own := [("knot", 12)]) (by rfl) sc_least_missing.nd (pi_list (pe_p p_knots hr (by decide) (pv 0))) (blkOk_by (own := [("knot", 12)]) (N := N_least_missing) (sc := defScope s_least_missing) (by decide +kernel)) (fun _ _ _ _ _ => (pg_name (i := 12) sc_least_missing.nd rfl (by first | exact Or.inl rfl | exact Or.inr rfl))) (fun _ _ _ _ _ => (pts_one (pt_cmp (pc_din hu (pv 12) (pv 4))))) (fun _ _ _ _ _ => (pv 12))) (pa_cons (pe_lc (own := [("knot", 12)]) (by rfl) sc_least_missing.nd (pi_list (pe_p p_knots hr (by decide) (pv 0))) (blkOk_by (own := [("knot", 12)]) (N := N_least_missing) (sc := defScope s_least_missing) (by decide +kernel)) (fun _ _ _ _ _ => (pg_name (i := 12) sc_least_missing.nd rfl (by first | exact Or.inl rfl | exact Or.inr rfl))) (fun _ _ _ _ _ => (pts_one (pt_cmp (pc_dnotin hu (pv 12) (pv 5))))) (fun _ _ _ _ _ => (pv 12))) pa_nil))))
      (pss_one (ps_ret (pe_mk m_Missing hr (by decide) (by rfl) (pa_cons (pe_c c_missing_of hr (by decide) (by rfl) (pa_cons (pv 0) (pa_cons (pv 3) pa_nil))) (pa_cons (pv 3) (pa_cons (pe_ix ix_list (pv 6) pe_int (fun _ _ => rfl)) (pa_cons (pe_ix ix_list (pv 6) pe_int (fun _ _ => rfl)) pa_nil)))))))))))))), ?_⟩
  have nd : ls.Nodup := pm.nodup_iff.mpr F.nd
  have l24 : ls.length ≤ 24 := by
    rw [pm.length_eq]
    exact F.nl
  have lin24 : p.lin.length ≤ 24 := Nat.le_trans (List.length_filter_le _ _) F.nl
  have kl := F.kl
  have hin : ∀ n ∈ p.lin, n ∈ ls ∧ n ∈ ls := fun n hn => have m := pm.mem_iff.mpr (List.mem_filter.mp hn).1; ⟨m, m⟩
  refine ⟨.ref a, rfl, .ref li, rfl, a, li, p, ls, lo, hi, rfl, hp, F, hl, pm, fun H1 s1 hle => ?_, fun H1 n s1 mn c => ⟨rfl, _, rfl, iteT (q0 H1 n s1 mn c)⟩⟩
  refine ⟨rfl, _, rfl, iteF ?_⟩
  refine ⟨.ref a, rfl, a, p, rfl, hp.same s1, F, fun H2 la s2 nla hla => ?_⟩
  have s02 := s1.trans s2
  -- the first flows
  refine ⟨fun σ H' => ∃ fl y11, σ = [some (.ref a), some (.ref li), some (.ref la), some (.ref fl), none, none, none, none, none, none, none, y11, none] ∧ Same H H' ∧ LinAt H' la p.lin p.tl p.hd ∧ H fl = none ∧ FlAt H' fl ls lo, ?_, ?_⟩
  · obtain ⟨t, rd, ht⟩ := hl.same s02
    refine lockS_by rd trivial fun o Hf D' h1 h2 hD' => ⟨.ref li, rfl, li, o, rfl, .inl ⟨_, h1, fun D hD => ?_⟩⟩
    refine dc_it walk_keys (fun i H' => Same Hf H' ∧ H' D = some (.dK (kvs (ls.take i) (gI lo)))) ⟨same_upd hD, upd_same⟩ (fun i H' _ z => z.1 _ _ h1) ?_ ?_
    · rintro i v H3 H4 hi ⟨s3, h3⟩ ⟨rfl, k, v2, hv, rfl⟩
      obtain ⟨x, hx, rfl, _⟩ := kvs_get hv
      have mx := List.mem_of_getElem? hx
      rw [kvs_len] at hi
      have tx := ht x mx
      have tx3 := s3 _ _ ((h2 _ (fun z => by rw [z] at tx; rcases rd with e | ⟨o, e⟩ <;> rw [tx] at e <;> cases e)).trans tx)
      refine ⟨rfl, _, rfl, .ref li, rfl, _, rfl, li, _, rfl, dget (.inr ⟨o, s3 _ _ h1⟩) mx, t x, _, 0, .int (lo x), rfl, rfl, SqT.of tx3, rfl, _, Sum.inr x, rfl, h3, sz_lt ?_, s3.mut hD, ?_⟩
      · rw [kvs_len, List.length_take]
        omega
      · rw [upd_same, List.take_add_one, hx, put_new (take_new nd hx)]
        refine congrArg (fun z => some (HO.dK z)) (kvs_congr fun m _ => ?_)
        unfold gset gI
        split
        · rename_i e
          rw [e]
        · rfl
    · rintro H3 ⟨s3, h3⟩
      rw [kvs_len, List.take_length] at h3
      refine hD' _ _ (s3 _ _ h1) fun Hu u1 u2 => ?_
      have su := same_un h2 s3 u1 u2
      have nD : D ≠ li := fun z => by rw [z, h1] at hD; cases hD
      have nD2 : H2 D = none := by rw [← h2 D nD]; exact hD
      exact ⟨D, _, rfl, s02.trans su, hla.same su, s02.free nD2, by unfold FlAt; rw [u2 D nD]; exact h3⟩
  rintro σ H3 ⟨fl, y11, rfl, s3, hla3, nfl, hf3⟩
  have lfl : li ≠ fl := fun z => rd_ne hl.choose_spec.1 nfl z.symm
  -- the loop
  let Iv (f : Str → Int) (H' : Hp) : Prop := Same H H' ∧ LinAt H' la p.lin p.tl p.hd ∧ FlAt H' fl ls f ∧ Within lo hi p.ns f
  refine ⟨fun μ σ H' => ∃ y7 y8 y9 y10 y11 y12 f, σ = [some (.ref a), some (.ref li), some (.ref la), some (.ref fl), none, none, none, y7, y8, y9, y10, y11, y12] ∧ Iv f H' ∧ μ = (miss p.tl p.hd p.ns p.ks f).toNat, ⟨_, _, _, _, _, _, _, lo, rfl, ⟨s3, hla3, hf3, fun n hn => ⟨Int.le_refl _, hle n hn⟩⟩, rfl⟩, ?_⟩
  rintro μ σ H4 ⟨y7, y8, y9, y10, y11, y12, f, rfl, ⟨s4, hla4, hf4, hw⟩, rfl⟩
  refine ⟨true, rfl, iteT ⟨fun σ' H' => ∃ μ', μ' < (miss p.tl p.hd p.ns p.ks f).toNat ∧ ∃ y7 y8 y9 y10 y11 y12 f, σ' = [some (.ref a), some (.ref li), some (.ref la), some (.ref fl), none, none, none, y7, y8, y9, y10, y11, y12] ∧ Iv f H' ∧ μ' = (miss p.tl p.hd p.ns p.ks f).toNat, fun σ' H' h => h, ?_⟩⟩
  refine ⟨.ref a, rfl, .ref fl, rfl, a, fl, p, ls, f, rfl, hp.same s4, F, Rd.of hf4, pm, fun H5 lf s5 nlf hlf => ?_⟩
  let nt := net p.tl p.hd p.ns f
  -- over
  have hp5 := (hp.same s4).same s5
  obtain ⟨dx5, k5, s05, e5⟩ := plAt_ins hp5
  refine ⟨.ref a, rfl, a, dx5, _, rfl, e5, a, p, rfl, hp5, fun H6 r6 s6 nr6 hr6 => ⟨r6, rfl, ⟨_, SqL.of hr6⟩, fun ov hov => ?_⟩⟩
  refine lc_it (walk_list (xs := p.ks.map V.str)) (LcP H6 ov fun i acc _ => acc = ((p.ks.take i).filter fun k => decide (0 < nt k)).map V.str) (LcP.start hov rfl) (fun i H' _ z => SqL.of (z.1 _ _ hr6)) ?_ ?_
  · rintro i v H7 H8 hi ⟨s7, acc, hc, rfl⟩ ⟨rfl, hv⟩
    obtain ⟨x, rfl, hx⟩ := get_str hv
    obtain ⟨g1, g2⟩ := flt_put hov s7 hx kl hc
    refine ⟨rfl, .ref lf, rfl, .str x, rfl, lf, _, rfl, dget (Rd.of (s7 _ _ (s6 _ _ hlf))) (List.mem_of_getElem? hx), nt x, 0, rfl, rfl, _, rfl, iteB (fun e => ⟨_, rfl, g1 e⟩) g2⟩
  rintro H7 ⟨s7, acc, hov7, rfl⟩
  rw [List.length_map, List.take_length] at hov7
  -- short
  have s57 := s6.trans s7
  have hp7 := hp5.same s57
  obtain ⟨dx7, k7, s07, e7⟩ := plAt_ins hp7
  refine ⟨.ref a, rfl, a, dx7, _, rfl, e7, a, p, rfl, hp7, fun H8 r8 s8 nr8 hr8 => ⟨r8, rfl, ⟨_, SqL.of hr8⟩, fun sh hsh => ?_⟩⟩
  refine lc_it (walk_list (xs := p.ks.map V.str)) (LcP H8 sh fun i acc _ => acc = ((p.ks.take i).filter fun k => decide (nt k < 0)).map V.str) (LcP.start hsh rfl) (fun i H' _ z => SqL.of (z.1 _ _ hr8)) ?_ ?_
  · rintro i v H9 H10 hi ⟨s9, acc, hc, rfl⟩ ⟨rfl, hv⟩
    obtain ⟨x, rfl, hx⟩ := get_str hv
    obtain ⟨g1, g2⟩ := flt_put hsh s9 hx kl hc
    refine ⟨rfl, .ref lf, rfl, .str x, rfl, lf, _, rfl, dget (Rd.of (s9 _ _ (s8 _ _ (s57 _ _ hlf)))) (List.mem_of_getElem? hx), nt x, 0, rfl, rfl, _, rfl, iteB (fun e => ⟨_, rfl, g1 e⟩) g2⟩
  rintro H9 ⟨s9, acc, hsh9, rfl⟩
  rw [List.length_map, List.take_length] at hsh9
  have s79 := s8.trans s9
  have hov9 := s79 _ _ hov7
  have hlf9 := s79 _ _ (s57 _ _ hlf)
  have s49 := (s5.trans s57).trans s79
  have s09 := s4.trans s49
  have hf9 := s49 _ _ hf4
  have hla9 := hla4.same s49
  have hl9 := hl.same s09
  let over := p.ks.filter fun k => decide (0 < nt k)
  let short := p.ks.filter fun k => decide (nt k < 0)
  have ndo : over.Nodup := F.kd.filter _
  have nds : short.Nodup := F.kd.filter _
  have lo24 : over.length ≤ 24 := Nat.le_trans (List.length_filter_le _ _) kl
  have ls24 : short.length ≤ 24 := Nat.le_trans (List.length_filter_le _ _) kl
  have mo : ∀ k, k ∈ over ↔ k ∈ p.ks ∧ 0 < nt k := fun k => by rw [List.mem_filter, decide_eq_true_iff]
  have ms : ∀ k, k ∈ short ↔ k ∈ p.ks ∧ nt k < 0 := fun k => by rw [List.mem_filter, decide_eq_true_iff]
  -- way
  refine ⟨.ref la, rfl, .ref li, rfl, .ref fl, rfl, la, li, fl, p.lin, ls, ls, p.tl, p.hd, lo, hi, f, rfl, hla9, hl9, Rd.of hf9, hin, lin24, fun H10 r10 zs s10 nr10 hz ez => ?_⟩
  have zl : zs.length ≤ 50 := by
    have a1 := arcs_len p.tl p.hd lo hi f p.lin
    rw [← ez, List.length_map] at a1
    omega
  refine ⟨.ref ov, rfl, .ref sh, rfl, r10, ov, sh, zs, over, short, rfl, hz, s10 _ _ hov9, s10 _ _ hsh9, ndo, lo24, zl, fun H11 S s11 cl hso hss => ?_, fun H11 wy ws s e s11 nwy hws hsub hs he pth smp wl => ?_⟩
  · -- no way: done
    refine ⟨_, rfl, rfl, _, rfl, iteT ?_⟩
    have s911 := s10.trans s11
    have s011 := s09.trans s911
    have shut : Shut p.tl p.hd lo hi p.ns f S := shut_lin (shut_of fun a ha => cl a (by rw [ez]; exact ha))
    have fin : ∀ g', Within lo hi p.ns g' → Bal p.tl p.hd p.ns p.ks g' → Bal p.tl p.hd p.ns p.ks f := fun g' wg bg => cut_none F.kd F.ends shut (fun k hk h => hso k ((mo k).mpr ⟨hk, h⟩)) (fun k hk h => hss k ((ms k).mpr ⟨hk, h⟩)) wg bg
    have hf11 := s911 _ _ hf9
    refine ⟨.ref la, rfl, .ref li, rfl, .ref fl, rfl, .ref sh, rfl, la, li, fl, sh, p.lin, ls, ls, short, p.tl, p.hd, lo, hi, f, rfl, hla9.same s911, hl9.same s911, hf11, hin, lin24, s911 _ _ hsh9, nds, ls24, fun H12 le W1 s12 nle hle12 => ?_⟩
    have s912 := s911.trans s12
    refine ⟨.ref la, rfl, .ref li, rfl, .ref fl, rfl, .ref ov, rfl, la, li, fl, ov, p.lin, ls, ls, over, p.tl, p.hd, lo, hi, f, rfl, hla9.same s912, hl9.same s912, s912 _ _ hf9, hin, lin24, s912 _ _ hov9, ndo, lo24, fun H13 sp W2 s13 nsp hsp13 => ?_⟩
    -- lots
    have s913 := s912.trans s13
    have s013 := s09.trans s913
    have hp13 := hp.same s013
    obtain ⟨dx13, k13, s013', e13⟩ := plAt_ins hp13
    refine ⟨.ref a, rfl, a, dx13, _, rfl, e13, a, p, rfl, hp13, fun H14 r14 s14 nr14 hr14 => ⟨r14, rfl, ⟨_, SqL.of hr14⟩, fun d1 hd1 => ?_⟩⟩
    refine lc_it (walk_list (xs := p.ks.map V.str)) (LcP H14 d1 fun i acc _ => acc = ((p.ks.take i).filter fun k => decide (k ∈ W1)).map V.str) (LcP.start hd1 rfl) (fun i H' _ z => SqL.of (z.1 _ _ hr14)) ?_ ?_
    · rintro i v H15 H16 hi ⟨s15, acc, hc, rfl⟩ ⟨rfl, hv⟩
      obtain ⟨x, rfl, hx⟩ := get_str hv
      obtain ⟨g1, g2⟩ := flt_put hd1 s15 hx kl hc
      refine ⟨rfl, _, rfl, .ref le, rfl, le, _, rfl, dgetO (Rd.of (s15 _ _ (s14 _ _ (s13 _ _ hle12)))), _, rfl, ?_⟩
      rw [val_some]
      exact iteB (fun e => ⟨_, rfl, g1 e⟩) g2
    rintro H15 ⟨s15, acc, hd15, rfl⟩
    have s015 := (s013.trans s14).trans s15
    have hp15 := hp.same s015
    obtain ⟨dx15, k15, s015', e15⟩ := plAt_ins hp15
    refine ⟨.ref a, rfl, a, dx15, _, rfl, e15, a, p, rfl, hp15, fun H16 r16 s16 nr16 hr16 => ⟨r16, rfl, ⟨_, SqL.of hr16⟩, fun d2 hd2 => ?_⟩⟩
    refine lc_it (walk_list (xs := p.ks.map V.str)) (LcP H16 d2 fun i acc _ => acc = ((p.ks.take i).filter fun k => !decide (k ∈ W2)).map V.str) (LcP.start hd2 rfl) (fun i H' _ z => SqL.of (z.1 _ _ hr16)) ?_ ?_
    · rintro i v H17 H18 hi ⟨s17, acc, hc, rfl⟩ ⟨rfl, hv⟩
      obtain ⟨x, rfl, hx⟩ := get_str hv
      obtain ⟨g1, g2⟩ := flt_put hd2 s17 hx kl hc
      refine ⟨rfl, _, rfl, .ref sp, rfl, sp, _, rfl, dgetO (Rd.of (s17 _ _ (s16 _ _ (s15 _ _ (s14 _ _ hsp13))))), _, rfl, ?_⟩
      rw [val_some]
      exact iteB (fun e => ⟨_, rfl, g1 e⟩) g2
    rintro H17 ⟨s17, acc, hd17, rfl⟩
    have s1317 := ((s14.trans s15).trans s16).trans s17
    refine ⟨(by show 2 ≤ sizeLine; decide), fun lt hlt => ?_⟩
    have s18 := same_upd (o := .lst [V.ref d1, V.ref d2]) hlt
    have s918 := (s913.trans s1317).trans s18
    have s018 := s09.trans s918
    refine ⟨.ref a, rfl, .ref fl, rfl, a, fl, p, ls, f, rfl, hp.same s018, F, Rd.of (s918 _ _ hf9), pm, fun H19 s19 => ?_⟩
    have s919 := s918.trans s19
    have hlt19 := s19 _ _ (upd_same (H := H17))
    have hd1' := s19 _ _ (s18 _ _ (s17 _ _ (s16 _ _ hd15)))
    have hd2' := s19 _ _ (s18 _ _ hd17)
    refine ⟨.ref fl, rfl, .ref lt, rfl, lt, _, 0, .ref d1, rfl, rfl, SqL.of hlt19, rfl, .ref lt, rfl, lt, _, 1, .ref d2, rfl, rfl, SqL.of hlt19, rfl, fun x dx hx hdx ndx => ?_⟩
    have b20 : Same H19 (upd (upd H19 dx (.own x)) x (.ins CM dx [])) := (same_upd hdx).mut hx
    refine ⟨x, dx, fl, d1, d2, _, _, _, _, rfl, upd_same, Rd.of (b20 _ _ (s919 _ _ hf9)), b20 _ _ hd1', b20 _ _ hd2', fun H' d l g b hd hdd hxx => ⟨rfl, ?_⟩⟩
    have s019 := s09.trans s919
    have hd19 : H19 d = none := by
      by_cases c : d = x
      · rw [c, upd_same] at hd
        cases hd
      · rw [upd_ne c] at hd
        by_cases c2 : d = dx
        · rw [c2]
          exact hdx
        · rw [upd_ne c2] at hd
          exact hd
    exact q1 H' x f d dx l g (fun b' o e => But.same (s019.trans b20) b (s019.free hx) b' o e) (s019.free hx) hxx hdd (s019.free hd19) hw fin
  · -- a push
    have s911 := s10.trans s11
    have pa := arcs_names ez pth
    obtain ⟨hsk, hsn⟩ := (mo s).mp hs
    obtain ⟨hek, hen⟩ := (ms e).mp he
    have wne : ws ≠ [] := fun z => by
      subst z
      have : s = e := pth
      subst this
      omega
    obtain ⟨z0, wr, e0⟩ := List.exists_cons_of_ne_nil wne
    obtain ⟨wi, zl, el⟩ : ∃ wi zl, ws = wi ++ [zl] := ⟨ws.dropLast, ws.getLast wne, (List.dropLast_concat_getLast wne).symm⟩
    have src0 : z0.2.src = s := by
      have p2 := pth
      rw [e0] at p2
      exact path_first p2
    have dstl : zl.2.dst = e := by
      have p2 := pth
      rw [el, List.map_append] at p2
      exact path_last p2
    have m0 : z0 ∈ ws := by rw [e0]; exact List.mem_cons_self
    have ml : zl ∈ ws := by rw [el]; exact List.mem_append_right _ (List.mem_singleton.mpr rfl)
    have at0 : atI (ws.map fun z => V.ref z.1) 0 = some (.ref z0.1) := atI_nat (j := 0) (by rw [e0]; rfl)
    have atl : atI (ws.map fun z => V.ref z.1) (-1) = some (.ref zl.1) := by
      rw [el, List.map_append]
      exact atI_last _ _
    have t0 := hws.2 z0 m0
    have tl := hws.2 zl ml
    have hlf11 := s911 _ _ hlf9
    refine ⟨_, rfl, rfl, _, rfl, iteF ?_⟩
    refine ⟨.ref fl, rfl, .ref wy, rfl, .ref lf, rfl, .ref wy, rfl, wy, _, 0, .ref z0.1, rfl, rfl, SqL.of hws.1, at0, z0.1, _, 0, .str z0.2.src, rfl, rfl, SqT.of t0, rfl, lf, _, rfl, dget (Rd.of hlf11) (by rw [src0]; exact hsk),
      .ref lf, rfl, .ref wy, rfl, 1, rfl, wy, _, _, .ref zl.1, rfl, rfl, SqL.of hws.1, atl, zl.1, _, 1, .str zl.2.dst, rfl, rfl, SqT.of tl, rfl, lf, _, rfl, dget (Rd.of hlf11) (by rw [dstl]; exact hek), _, rfl, _, _, rfl, ?_⟩
    rw [src0, dstl]
    refine ⟨fl, wy, ws, ls, f, _, rfl, s911 _ _ hf9, hws, fun z hz => ?_, l24, wl, fun H12 m b12 hf12 am ar ae => ?_⟩
    · have ia := pa.all z.2 (List.mem_map.mpr ⟨z, hz, rfl⟩)
      exact ⟨(hin _ ia.mem).2, ia.way.imp (fun e => e.1) fun e => e.1⟩
    · have es1 : nt s = net p.tl p.hd p.ns f s := rfl
      have es2 : nt e = net p.tl p.hd p.ns f e := rfl
      have bds : m ≤ nt s ∧ m ≤ -(nt e) ∧ 1 ≤ m := by
        have a1 : m ≤ nt s ∧ m ≤ -(nt e) := by
          split at am <;> exact ⟨by omega, by omega⟩
        refine ⟨a1.1, a1.2, ?_⟩
        rcases ae with e | ⟨z, hz, e⟩
        · split at e <;> omega
        · have := (pa.all z.2 (List.mem_map.mpr ⟨z, hz, rfl⟩)).pos
          omega
      have np := fun k => net_lin (m := m) (f' := f) F.nd pa k
      have less := miss_push F.kd hsk hek bds.2.2 bds.1 bds.2.1 np
      have nn := miss_nonneg (tl := p.tl) (hd := p.hd) (ns := p.ns) (ks := p.ks) (f := pushF f (ws.map (·.2)) m)
      have s012 : Same H H12 := fun b' o' e' => But.same (s09.trans s911) b12 nfl b' o' e'
      refine ⟨_, ?_, _, _, _, _, _, _, _, rfl, ⟨s012, (hla9.same s911).but b12 (s911 _ _ hf9), hf12, fun n hn => ?_⟩, rfl⟩
      · exact toNat_less nn less
      · exact within_push (by omega) pa smp (fun z hz => by obtain ⟨y, hy, rfl⟩ := List.mem_map.mp hz; exact ar y hy) (hw n hn)
end
end Ms
set_option Elab.async false
set_option linter.all false
set_option maxRecDepth 100000
set_option maxHeartbeats 4000000
/-! Balanced flows, ranges. -/
namespace Ms
open PySem PySem.Spec PyProof.Rows L2
/-- flows within the limits that leave nothing at any knot -/
def Ok (p : Pl) (lo hi f : Str → Int) : Prop := Within lo hi p.ns f ∧ Bal p.tl p.hd p.ns p.ks f
/-- l and h are the least and the greatest of a stream -/
structure Ext (p : Pl) (lo hi : Str → Int) (n : Str) (l h : Int) : Prop where
  low : ∃ f, Ok p lo hi f ∧ f n = l
  high : ∃ f, Ok p lo hi f ∧ f n = h
  all : ∀ f, Ok p lo hi f → l ≤ f n ∧ f n ≤ h
theorem flt_putG {α : Type} {val : α → V} {H1 H3 : Hp} {D : Addr} {ks : List α} {φ : α → Bool} {i : Nat} {x : α} (hD : H1 D = none) (s : Same H1 H3) (hx : ks[i]? = some x) (kl : ks.length ≤ 24) (hc : H3 D = some (.lst (((ks.take i).filter φ).map val))) :
    (φ x = true → ∃ acc, H3 D = some (.lst acc) ∧ acc.length < sizeLine ∧ LcP H1 D (fun i acc _ => acc = ((ks.take i).filter φ).map val) (i + 1) (upd H3 D (.lst (acc ++ [val x])))) ∧
      (φ x = false → LcP H1 D (fun i acc _ => acc = ((ks.take i).filter φ).map val) (i + 1) H3) := by
  have ef : (ks.take (i + 1)).filter φ = (ks.take i).filter φ ++ (if φ x = true then [x] else []) := by
    rw [List.take_add_one, hx, List.filter_append]
    congr 1
    show List.filter _ [x] = _
    rw [List.filter_cons]
    split <;> rfl
  refine ⟨fun e => LcP.put hD s hc (sz_lt ?_) ?_, fun e => ⟨s, _, hc, ?_⟩⟩
  · rw [List.length_map]
    have h1 := List.length_filter_le φ (ks.take i)
    have h2 : (ks.take i).length ≤ ks.length := List.length_take_le' i ks
    omega
  · rw [ef, if_pos e, List.map_append]
    rfl
  · show _ = ((ks.take (i + 1)).filter φ).map val
    rw [ef, if_neg (by rw [e]; exact Bool.false_ne_true), List.append_nil]
section
variable {P : Program} {w : World} {K : PySem.W.Frag} {mg : Str → Option Value} {base : Heap} {C CM CR : Addr}
/-! ### flows_within -/
abbrev s_flows_within : Stmt := topS 37
abbrev N_flows_within : List Str := ["plant", "limits", "found"]
theorem sc_flows_within : FnScope N_flows_within ["plant", "limits"] (defScope s_flows_within) := ⟨rfl, rfl, rfl, by decide +kernel, rfl, by decide +kernel, by decide +kernel⟩
def spWithin (C : Addr) : Sp := fun vs H Q _ => ∃ (a li : Addr) (p : Pl) (ls : List Str) (lo hi : Str → Int), vs = [.ref a, .ref li] ∧ PlAt C H a p ∧ PlOk p ∧ LimAt H li ls lo hi ∧ ls.Perm p.ns ∧
  (∀ H', Same H H' → (∀ g, ¬ Ok p lo hi g) → Q .non H') ∧ ∀ H' fa f, Same H H' → H fa = none → FlAt H' fa ls f → Ok p lo hi f → Q (.ref fa) H'
theorem ok_flows_within (T : Txt K mg C CM CR) {f : Addr} {fd : FuncData} (D : DefIn K mg "flows_within" s_flows_within f fd) (c_least_missing : Cal P w K mg base 6 "least_missing" (spLeast C CM)) : Cal P w K mg base 7 "flows_within" (spWithin C) := by
  refine cal_of (N := N_flows_within) D (ps := ["plant", "limits"]) (fun _ _ _ _ _ _ us hl => match us, hl with | [_, _], _ => rfl) sc_flows_within (fun vs H Q E h => ?_) (fun cdv A outer s H vs Q E hr h => ?_)
  · obtain ⟨a, li, p, ls, lo, hi, rfl, _⟩ := h
    rfl
  have hu := hu_of hr
  obtain ⟨a, li, p, ls, lo, hi, rfl, hp, F, hl, pm, q0, q1⟩ := h
  refine ⟨_, (pss_cons (ps_set (i := 2) sc_flows_within.nd rfl (by first | exact Or.inl rfl | exact Or.inr rfl) (pe_c c_least_missing hr (by decide) (by rfl) (pa_cons (pv 0) (pa_cons (pv 1) pa_nil))))
      (pss_cons (ps_if (PW.pt (pw_or (pt_cmpR op_isN (pv 2) pe_non (nomark _)) (pw_or1 (pt_cmpR op_gt (pe_fld (pv 2) rfl) pe_int (nomark _))))) (pss_one (ps_ret pe_non)) pss_nil)
      (pss_one (ps_ret (pe_fld (pv 2) rfl))))), ?_⟩
  refine ⟨.ref a, rfl, .ref li, rfl, a, li, p, ls, lo, hi, rfl, hp, F, hl, pm, fun H1 n s1 mn c => ?_, fun H1 r f fa dx l g s1 nr hr1 hf nf hw hg => ?_⟩
  · refine ⟨_, rfl, rfl, _, rfl, iteT (iteT (q0 H1 s1 fun g hg => ?_))⟩
    have := hg.1 n mn
    omega
  · refine ⟨_, rfl, rfl, _, rfl, iteF ⟨_, rfl, r, CM, dx, _, _, rfl, hr1, T.clM, T.nNu, msF_n _ _ _ _, _, 0, rfl, rfl, _, rfl, ?_⟩⟩
    by_cases c : 0 < miss p.tl p.hd p.ns p.ks f
    · refine iteD c (q0 H1 s1 fun g ok => ?_)
      have := miss_zero_of_bal (hg g ok.1 ok.2)
      omega
    · refine iteDF c ?_
      exact ⟨_, rfl, r, CM, dx, _, _, rfl, hr1, T.clM, T.nFl, msF_f _ _ _ _, q1 H1 fa f s1 nf hf ⟨hw, bal_of_miss F.kd F.ends (by omega)⟩⟩
/-! ### Range -/
abbrev s_Range___init__ : Stmt := inClass (topS 39) 0
abbrev N_Range___init__ : List Str := ["self", "low", "high", "low_flows", "high_flows", "low_lot", "high_lot"]
theorem sc_Range___init__ : FnScope N_Range___init__ ["self", "low", "high", "low_flows", "high_flows", "low_lot", "high_lot"] (defScope s_Range___init__) := ⟨rfl, rfl, rfl, by decide +kernel, rfl, by decide +kernel, by decide +kernel⟩
def LotAt (H : Hp) (v : V) : Prop := v = .non ∨ ∃ q xs, v = .ref q ∧ H q = some (.lst xs)
theorem LotAt.same {H H' : Hp} {v : V} (h : LotAt H v) (e : Same H H') : LotAt H' v := h.imp id fun ⟨q, xs, a, b⟩ => ⟨q, xs, a, e _ _ b⟩
theorem LotAt.but {H H' : Hp} {v : V} {b : Addr} (h : LotAt H v) (e : But b H H') (n : ∀ xs, H b ≠ some (.lst xs)) : LotAt H' v := h.imp id fun ⟨q, xs, x, y⟩ => ⟨q, xs, x, e _ _ (fun z => n xs (z ▸ y)) y⟩
structure RgF (fs : List (Str × V)) (l h : Int) : Prop where
  low : fs.lookup ("low" : Str) = some (.int l)
  high : fs.lookup ("high" : Str) = some (.int h)
theorem rgF_of (l h : Int) (a b c d : V) : RgF (putF "high_lot" d (putF "low_lot" c (putF "high_flows" b (putF "low_flows" a (putF "high" (.int h) (putF "low" (.int l) [])))))) l h := by
  constructor
  · rw [lookup_putF, if_neg (by decide +kernel), lookup_putF, if_neg (by decide +kernel), lookup_putF, if_neg (by decide +kernel), lookup_putF, if_neg (by decide +kernel), lookup_putF, if_neg (by decide +kernel), lookup_putF, if_pos rfl]
  · rw [lookup_putF, if_neg (by decide +kernel), lookup_putF, if_neg (by decide +kernel), lookup_putF, if_neg (by decide +kernel), lookup_putF, if_neg (by decide +kernel), lookup_putF, if_pos rfl]
def spRange (CR : Addr) : Sp := fun vs H Q _ => ∃ (x dx f1 f2 : Addr) (l h : Int) (v1 v2 : V) (k1 k2 : List (Key × V)), vs = [.ref x, .int l, .int h, .ref f1, .ref f2, v1, v2] ∧ H x = some (.ins CR dx []) ∧ Rd H f1 (.dK k1) ∧ Rd H f2 (.dK k2) ∧ LotAt H v1 ∧ LotAt H v2 ∧
  ∀ H' fs, But x H H' → H' x = some (.ins CR dx fs) → RgF fs l h → Q .non H'
theorem ok_range (T : Txt K mg C CM CR) {f : Addr} {fd : FuncData} (hm : mg "Range" = some (.ref CR)) (mk : PySem.W.makesIn K CR = true) (kc : PySem.W.keepIn K (.ref CR) = true) (D : MethIn K CR "__init__" "Range.__init__" s_Range___init__ f fd) : Mak P w K mg base 1 "Range" CR (spRange CR) := by
  refine mak_of (N := N_Range___init__) hm mk kc D (ps := ["self", "low", "high", "low_flows", "high_flows", "low_lot", "high_lot"]) (fun _ _ _ _ _ _ us hl => match us, hl with | [_, _, _, _, _, _, _], _ => rfl) sc_Range___init__ (fun vs H Q E h => ?_) (fun cdv A outer s H vs Q E hr h => ?_)
  · obtain ⟨x, dx, f1, f2, l, h, v1, v2, k1, k2, rfl, _⟩ := h
    rfl
  have hu := hu_of hr
  obtain ⟨x, dx, f1, f2, l, h, v1, v2, k1, k2, rfl, hx, hf1, hf2, hl1, hl2, q⟩ := h
  have nx : ∀ {c : Addr} {k : List (Key × V)}, Rd H c (.dK k) → c ≠ x := fun {c k} r z => by
    rw [z] at r
    rcases r with e | ⟨o, e⟩ <;> rw [hx] at e <;> cases e
  have nl : ∀ xs, H x ≠ some (.lst xs) := fun xs e => by rw [hx] at e; cases e
  have lt1 : ∀ (k : Str) (v : V) (m : List (Str × V)) (n : Nat), m.length ≤ n → n < 100 → (putF k v m).length ≤ n + 1 := fun k v m n h _ => Nat.le_trans (length_putF _ _ _) (Nat.succ_le_succ h)
  have z1 : (putF "low" (.int l) []).length ≤ 1 := lt1 _ _ _ 0 (Nat.le_refl _) (by omega)
  have z2 := lt1 "high" (.int h) _ 1 z1 (by omega)
  refine ⟨_, (pss_cons (ps_fld (pv 0) (pv 1) rfl)
      (pss_cons (ps_fld (pv 0) (pv 2) rfl)
      (pss_cons (ps_fld (pv 0) (pe_callTy call_dictD (by rfl) T.dict (by decide +kernel) (pa_cons (pv 3) pa_nil)) rfl)
      (pss_cons (ps_fld (pv 0) (pe_callTy call_dictD (by rfl) T.dict (by decide +kernel) (pa_cons (pv 4) pa_nil)) rfl)
      (pss_cons (ps_fld (pv 0) (pe_ifExp (pt_cmpR op_isN (pv 5) pe_non (nomark _)) pe_non (pe_callTy call_list_of (by rfl) T.list (by decide +kernel) (pa_cons (pv 5) pa_nil))) rfl)
      (pss_one (ps_fld (pv 0) (pe_ifExp (pt_cmpR op_isN (pv 6) pe_non (nomark _)) pe_non (pe_callTy call_list_of (by rfl) T.list (by decide +kernel) (pa_cons (pv 6) pa_nil))) rfl))))))), ?_⟩
  refine ⟨_, rfl, _, rfl, x, CR, dx, [], rfl, hx, T.clR, T.nLo, (by show 0 < 1000; decide), ?_⟩
  have b1 : But x H (upd H x (.ins CR dx (putF "low" (.int l) []))) := But.upd _ _
  refine ⟨_, rfl, _, rfl, x, CR, dx, _, rfl, upd_same, T.clR, T.nHi, by omega, ?_⟩
  have b2 := b1.trans (But.upd _ (.ins CR dx (putF "high" (.int h) (putF "low" (.int l) []))))
  refine ⟨_, rfl, f1, k1, rfl, b2.rd (nx hf1) hf1, fun d1 hd1 => ?_⟩
  have b3 := b2.trans (same_upd (o := .dK k1) hd1).but
  have x1 : x ≠ d1 := ne_of_none upd_same hd1
  have z3 := lt1 "low_flows" (.ref d1) _ 2 z2 (by omega)
  refine ⟨_, rfl, x, CR, dx, _, rfl, (by rw [upd_ne x1]; exact upd_same), T.clR, T.nLf, by omega, ?_⟩
  have b4 := b3.trans (But.upd _ (.ins CR dx (putF "low_flows" (.ref d1) (putF "high" (.int h) (putF "low" (.int l) [])))))
  refine ⟨_, rfl, f2, k2, rfl, b4.rd (nx hf2) hf2, fun d2 hd2 => ?_⟩
  have b5 := b4.trans (same_upd (o := .dK k2) hd2).but
  have x2 : x ≠ d2 := ne_of_none upd_same hd2
  have z4 := lt1 "high_flows" (.ref d2) _ 3 z3 (by omega)
  refine ⟨_, rfl, x, CR, dx, _, rfl, (by rw [upd_ne x2]; exact upd_same), T.clR, T.nHf, by omega, ?_⟩
  have b6 := b5.trans (But.upd _ (.ins CR dx (putF "high_flows" (.ref d2) (putF "low_flows" (.ref d1) (putF "high" (.int h) (putF "low" (.int l) []))))))
  have z5 := fun v => lt1 "low_lot" v _ 4 z4 (by omega)
  rcases hl1 with rfl | ⟨q1, xs1, rfl, hq1⟩
  · refine ⟨_, rfl, rfl, _, rfl, iteT ⟨_, rfl, x, CR, dx, _, rfl, upd_same, T.clR, T.nLl, by omega, ?_⟩⟩
    have b7 := b6.trans (But.upd _ (.ins CR dx (putF "low_lot" .non (putF "high_flows" (.ref d2) (putF "low_flows" (.ref d1) (putF "high" (.int h) (putF "low" (.int l) [])))))))
    rcases hl2 with rfl | ⟨q2, xs2, rfl, hq2⟩
    · exact ⟨_, rfl, rfl, _, rfl, iteT ⟨_, rfl, x, CR, dx, _, rfl, upd_same, T.clR, T.nHl, Nat.lt_of_le_of_lt (z5 _) (by omega), q _ _ (b7.trans (But.upd _ _)) upd_same (rgF_of _ _ _ _ _ _)⟩⟩
    · refine ⟨_, rfl, rfl, _, rfl, iteF ⟨_, rfl, q2, xs2, rfl, .inl (SqL.of (b7 _ _ (fun z => nl _ (z ▸ hq2)) hq2)), fun l2 hl2 => ?_⟩⟩
      have x3 : x ≠ l2 := ne_of_none upd_same hl2
      exact ⟨_, rfl, x, CR, dx, _, rfl, (by rw [upd_ne x3]; exact upd_same), T.clR, T.nHl, Nat.lt_of_le_of_lt (z5 _) (by omega), q _ _ ((b7.trans (same_upd hl2).but).trans (But.upd _ _)) upd_same (rgF_of _ _ _ _ _ _)⟩
  · refine ⟨_, rfl, rfl, _, rfl, iteF ⟨_, rfl, q1, xs1, rfl, .inl (SqL.of (b6 _ _ (fun z => nl _ (z ▸ hq1)) hq1)), fun l1 hl1 => ?_⟩⟩
    have x4 : x ≠ l1 := ne_of_none upd_same hl1
    refine ⟨_, rfl, x, CR, dx, _, rfl, (by rw [upd_ne x4]; exact upd_same), T.clR, T.nLl, by omega, ?_⟩
    have b7 := (b6.trans (same_upd (o := .lst xs1) hl1).but).trans (But.upd _ (.ins CR dx (putF "low_lot" (.ref l1) (putF "high_flows" (.ref d2) (putF "low_flows" (.ref d1) (putF "high" (.int h) (putF "low" (.int l) [])))))))
    rcases hl2 with rfl | ⟨q2, xs2, rfl, hq2⟩
    · exact ⟨_, rfl, rfl, _, rfl, iteT ⟨_, rfl, x, CR, dx, _, rfl, upd_same, T.clR, T.nHl, Nat.lt_of_le_of_lt (z5 _) (by omega), q _ _ (b7.trans (But.upd _ _)) upd_same (rgF_of _ _ _ _ _ _)⟩⟩
    · refine ⟨_, rfl, rfl, _, rfl, iteF ⟨_, rfl, q2, xs2, rfl, .inl (SqL.of (b7 _ _ (fun z => nl _ (z ▸ hq2)) hq2)), fun l2 hl2 => ?_⟩⟩
      have x3 : x ≠ l2 := ne_of_none upd_same hl2
      exact ⟨_, rfl, x, CR, dx, _, rfl, (by rw [upd_ne x3]; exact upd_same), T.clR, T.nHl, Nat.lt_of_le_of_lt (z5 _) (by omega), q _ _ ((b7.trans (same_upd hl2).but).trans (But.upd _ _)) upd_same (rgF_of _ _ _ _ _ _)⟩
/-! ### pushed_to -/
abbrev s_pushed_to : Stmt := topS 40
abbrev N_pushed_to : List Str := ["plant", "lines", "limits", "flows", "start", "end", "most", "pushed", "found", "knot"]
theorem sc_pushed_to : FnScope N_pushed_to ["plant", "lines", "limits", "flows", "start", "end", "most"] (defScope s_pushed_to) := ⟨rfl, rfl, rfl, by decide +kernel, rfl, by decide +kernel, by decide +kernel⟩
def spPushed (C : Addr) : Sp := fun vs H Q _ => ∃ (a la li fl : Addr) (p : Pl) (ls lm lf : List Str) (tl hd : Str → Str) (lo hi f : Str → Int) (st en : Str) (most : Int), vs = [.ref a, .ref la, .ref li, .ref fl, .str st, .str en, .int most] ∧ PlAt C H a p ∧ PlOk p ∧ LinAt H la ls tl hd ∧ LimAt H li lm lo hi ∧
  FlAt H fl lf f ∧ li ≠ fl ∧ (∀ n ∈ ls, n ∈ lm ∧ n ∈ lf) ∧ ls.length ≤ 24 ∧ lf.length ≤ 24 ∧ 0 ≤ most ∧
  ∀ H' r f' m v, But fl H H' → FlAt H' fl lf f' → Moved tl hd lo hi ls st en f f' m → 0 ≤ m → m ≤ most → (m = most ∨ ∃ S, Shut tl hd lo hi ls f' S ∧ S st = true ∧ S en = false) → H' r = some (.tup [.int m, v]) → LotAt H' v → Q (.ref r) H'
theorem ok_pushed_to (T : Txt K mg C CM CR) {f : Addr} {fd : FuncData} (D : DefIn K mg "pushed_to" s_pushed_to f fd) (c_push_all : Cal P w K mg base 3 "push_all" spPushAll) (c_leading_to : Cal P w K mg base 2 "leading_to" spLead) (p_knots : Prp P w K mg base 1 C "knots" (spKnots C)) : Cal P w K mg base 4 "pushed_to" (spPushed C) := by
  refine cal_of (N := N_pushed_to) D (ps := ["plant", "lines", "limits", "flows", "start", "end", "most"]) (fun _ _ _ _ _ _ us hl => match us, hl with | [_, _, _, _, _, _, _], _ => rfl) sc_pushed_to (fun vs H Q E h => ?_) (fun cdv A outer s H vs Q E hr h => ?_)
  · obtain ⟨a, la, li, fl, p, ls, lm, lf, tl, hd, lo, hi, f, st, en, most, rfl, _⟩ := h
    rfl
  have hu := hu_of hr
  obtain ⟨a, la, li, fl, p, ls, lm, lf, tl, hd, lo, hi, f, st, en, most, rfl, hp, F, hla, hli, hfl, nlf, hin, l24, lf24, m0, q⟩ := h
  refine ⟨_, (pss_cons (ps_set (i := 7) sc_pushed_to.nd rfl (by first | exact Or.inl rfl | exact Or.inr rfl) (pe_c c_push_all hr (by decide) (by rfl) (pa_cons (pv 1) (pa_cons (pv 2) (pa_cons (pv 3) (pa_cons (pv 4) (pa_cons (pv 5) (pa_cons (pv 6) pa_nil))))))))
      (pss_cons (ps_if (pt_cmpR op_eq (pv 7) (pv 6) (nomark _)) (pss_one (ps_ret (pe_tup (pa_cons (pv 7) (pa_cons pe_non pa_nil))))) pss_nil)
      (pss_cons (ps_set (i := 8) sc_pushed_to.nd rfl (by first | exact Or.inl rfl | exact Or.inr rfl) (pe_c c_leading_to hr (by decide) (by rfl) (pa_cons (pv 1) (pa_cons (pv 2) (pa_cons (pv 3) (pa_cons (pe_lst (pa_cons (pv 5) pa_nil)) pa_nil))))))
      (pss_one (ps_ret (pe_tup (pa_cons (pv 7) (pa_cons (pe_lc (own := [("knot", 9)]) (by rfl) sc_pushed_to.nd (pi_list (pe_p p_knots hr (by decide) (pv 0))) (blkOk_by (own := [("knot", 9)]) (N := N_pushed_to) (sc := defScope s_pushed_to) (by decide +kernel)) (fun _ _ _ _ _ => (pg_name (i := 9) sc_pushed_to.nd rfl (by first | exact Or.inl rfl | exact Or.inr rfl))) (fun _ _ _ _ _ => (pts_one (pt_cmp (pc_din hu (pv 9) (pv 8))))) (fun _ _ _ _ _ => (pv 9))) pa_nil)))))))), ?_⟩
  refine ⟨.ref la, rfl, .ref li, rfl, .ref fl, rfl, _, rfl, _, rfl, _, rfl, la, li, fl, ls, lm, lf, tl, hd, lo, hi, f, st, en, most, rfl, hla, hli, hfl, nlf, hin, l24, lf24, m0, fun H1 f' m b1 hf1 M mm ml alt => ?_⟩
  refine ⟨_, rfl, _, rfl, rfl, _, rfl, ite2 (fun e => ?_) fun e => ?_⟩
  · refine ⟨_, rfl, (by show 2 ≤ sizeLine; decide), fun r hr1 => ?_⟩
    have s2 := same_upd (o := .tup [.int m, .non]) hr1
    exact q _ r f' m .non (b1.trans s2.but) (s2 _ _ hf1) M mm ml alt upd_same (.inl rfl)
  · have hla1 := hla.but b1 hfl
    have hli1 := hli.but b1 hfl nlf
    refine ⟨.ref la, rfl, .ref li, rfl, .ref fl, rfl, _, rfl, (by show 1 ≤ sizeLine; decide), fun q1 hq1 => ?_⟩
    have s2 := same_upd (o := .lst [.str en]) hq1
    refine ⟨la, li, fl, q1, ls, lm, lf, [en], tl, hd, lo, hi, f', rfl, hla1.same s2, hli1.same s2, s2 _ _ hf1, hin, l24, upd_same, by simp, by show 1 ≤ 24; omega, fun H3 le W s3 nle hle => ?_⟩
    have s13 := s2.trans s3
    have hp3 := (hp.but b1 hfl).same s13
    obtain ⟨dx, k, s0, e0⟩ := plAt_ins hp3
    refine ⟨_, rfl, .ref a, rfl, a, dx, _, rfl, e0, a, p, rfl, hp3, fun H4 r4 s4 nr4 hr4 => ⟨r4, rfl, ⟨_, SqL.of hr4⟩, fun d1 hd1 => ?_⟩⟩
    refine lc_it (walk_list (xs := p.ks.map V.str)) (LcP H4 d1 fun i acc _ => acc = ((p.ks.take i).filter fun k => decide (k ∈ W)).map V.str) (LcP.start hd1 rfl) (fun i H' _ z => SqL.of (z.1 _ _ hr4)) ?_ ?_
    · rintro i v H15 H16 hi ⟨s15, acc, hc, rfl⟩ ⟨rfl, hv⟩
      obtain ⟨x, rfl, hx⟩ := get_str hv
      obtain ⟨g1, g2⟩ := flt_put hd1 s15 hx F.kl hc
      refine ⟨rfl, _, rfl, .ref le, rfl, le, _, rfl, dgetO (Rd.of (s15 _ _ (s4 _ _ hle))), _, rfl, ?_⟩
      rw [val_some]
      exact iteB (fun e => ⟨_, rfl, g1 e⟩) g2
    rintro H5 ⟨s5, acc, hd5, rfl⟩
    refine ⟨(by show 2 ≤ sizeLine; decide), fun r hr6 => ?_⟩
    have s6 := same_upd (o := .tup [.int m, .ref d1]) hr6
    have s16 := ((s13.trans s4).trans s5).trans s6
    exact q _ r f' m _ (b1.trans s16.but) (s16 _ _ hf1) M mm ml alt upd_same (.inr ⟨d1, _, rfl, s6 _ _ hd5⟩)
end
end Ms
set_option Elab.async false
set_option linter.all false
set_option maxRecDepth 100000
set_option maxHeartbeats 4000000
/-! The range of one stream; readings. -/
namespace Ms
open PySem PySem.Spec PyProof.Rows L2
/-! ### the least and the greatest, by what was pushed -/
/-- the other streams that join two knots -/
def Pl.oth (p : Pl) (n : Str) : List Str := p.lin.filter fun m => !decide (m = n)
theorem mem_oth {p : Pl} {n m : Str} (h : m ∈ p.oth n) : m ∈ p.ns ∧ m ≠ n := by
  obtain ⟨a, b⟩ := List.mem_filter.mp h
  refine ⟨(List.mem_filter.mp a).1, fun e => ?_⟩
  rw [decide_eq_true e] at b
  cases b
theorem shut_oth {p : Pl} {lo hi f : Str → Int} {S : Str → Bool} {n : Str} (v : Int) (h : Shut p.tl p.hd lo hi (p.oth n) f S) : Shut p.tl p.hd lo hi (p.ns.filter fun m => decide (m ≠ n)) (fset f n v) S := fun m hm => by
  obtain ⟨a, b⟩ := List.mem_filter.mp hm
  have ne : m ≠ n := of_decide_eq_true b
  rw [fset_ne f v ne]
  by_cases c : p.tl m = p.hd m
  · rw [c]
    exact ⟨fun a b => (by rw [a] at b; cases b), fun a b => (by rw [a] at b; cases b)⟩
  · refine h m (List.mem_filter.mpr ⟨List.mem_filter.mpr ⟨a, decide_eq_true c⟩, ?_⟩)
    rw [decide_eq_false ne]
    rfl
theorem moved_ok {p : Pl} (F : PlOk p) {lo hi f f' : Str → Int} {n st en : Str} {m v : Int} (hn : n ∈ p.ns) (ok : Ok p lo hi f) (M : Moved p.tl p.hd lo hi (p.oth n) st en f f' m) (hv : lo n ≤ v ∧ v ≤ hi n)
    (e : ∀ k, (if st = k then m else 0) - (if en = k then m else 0) = (if p.hd n = k then v - f n else 0) - (if p.tl n = k then v - f n else 0)) : Ok p lo hi (fset f' n v) := by
  have fn : f' n = f n := M.off n fun h => (mem_oth h).2 rfl
  refine ⟨fun k hk => ?_, fun k hk => ?_⟩
  · by_cases c : k = n
    · rw [c, fset_same]
      exact hv
    · rw [fset_ne _ _ c]
      exact M.keep k (ok.1 k hk)
  · rw [net_fset F.nd hn, fn, M.net p.ns F.nd (fun k h => (mem_oth h).1), ok.2 k hk]
    have := e k
    omega
theorem low_of {p : Pl} (F : PlOk p) {lo hi f f' : Str → Int} {n : Str} {m : Int} (hn : n ∈ p.ns) (ok : Ok p lo hi f) (M : Moved p.tl p.hd lo hi (p.oth n) (p.tl n) (p.hd n) f f' m) (m0 : 0 ≤ m) (m1 : m ≤ f n - lo n)
    (alt : m = f n - lo n ∨ ∃ S, Shut p.tl p.hd lo hi (p.oth n) f' S ∧ S (p.tl n) = true ∧ S (p.hd n) = false) : (∃ g, Ok p lo hi g ∧ g n = f' n - m) ∧ ∀ g, Ok p lo hi g → f' n - m ≤ g n := by
  have fn : f' n = f n := M.off n fun h => (mem_oth h).2 rfl
  have wn := ok.1 n hn
  have ok2 : Ok p lo hi (fset f' n (f n - m)) := moved_ok F hn ok M ⟨by omega, by omega⟩ fun k => by (repeat' split) <;> omega
  rw [fn]
  refine ⟨⟨_, ok2, fset_same _ _ _⟩, fun g hg => ?_⟩
  rcases alt with e | ⟨S, sh, h1, h2⟩
  · have := (hg.1 n hn).1
    omega
  · have := cut_low F.nd F.kd F.ends hn (shut_oth (f n - m) sh) ok2.2 hg.1 hg.2 h1 h2
    rw [fset_same] at this
    exact this
theorem high_of {p : Pl} (F : PlOk p) {lo hi f f' : Str → Int} {n : Str} {m : Int} (hn : n ∈ p.ns) (ok : Ok p lo hi f) (M : Moved p.tl p.hd lo hi (p.oth n) (p.hd n) (p.tl n) f f' m) (m0 : 0 ≤ m) (m1 : m ≤ hi n - f n)
    (alt : m = hi n - f n ∨ ∃ S, Shut p.tl p.hd lo hi (p.oth n) f' S ∧ S (p.hd n) = true ∧ S (p.tl n) = false) : (∃ g, Ok p lo hi g ∧ g n = f' n + m) ∧ ∀ g, Ok p lo hi g → g n ≤ f' n + m := by
  have fn : f' n = f n := M.off n fun h => (mem_oth h).2 rfl
  have wn := ok.1 n hn
  have ok2 : Ok p lo hi (fset f' n (f n + m)) := moved_ok F hn ok M ⟨by omega, by omega⟩ fun k => by (repeat' split) <;> omega
  rw [fn]
  refine ⟨⟨_, ok2, fset_same _ _ _⟩, fun g hg => ?_⟩
  rcases alt with e | ⟨S, sh, h1, h2⟩
  · have := (hg.1 n hn).2
    omega
  · have := cut_high F.nd F.kd F.ends hn (shut_oth (f n + m) sh) ok2.2 hg.1 hg.2 h1 h2
    rw [fset_same] at this
    exact this
theorem loop_ext {p : Pl} (F : PlOk p) {lo hi f : Str → Int} {n : Str} (hn : n ∈ p.ns) (ok : Ok p lo hi f) (e : p.tl n = p.hd n) : Ext p lo hi n (lo n) (hi n) := by
  have wn := ok.1 n hn
  have mk : ∀ v, lo n ≤ v → v ≤ hi n → ∃ g, Ok p lo hi g ∧ g n = v := fun v h1 h2 => by
    refine ⟨fset f n v, ⟨fun k hk => ?_, fun k hk => ?_⟩, fset_same _ _ _⟩
    · by_cases c : k = n
      · rw [c, fset_same]
        exact ⟨h1, h2⟩
      · rw [fset_ne _ _ c]
        exact ok.1 k hk
    · rw [net_loop F.nd hn e]
      exact ok.2 k hk
  exact ⟨mk _ (Int.le_refl _) (by omega), mk _ (by omega) (Int.le_refl _), fun g hg => hg.1 n hn⟩
section
variable {P : Program} {w : World} {K : PySem.W.Frag} {mg : Str → Option Value} {base : Heap} {C CM CR : Addr}
/-! ### range_within -/
abbrev s_range_within : Stmt := topS 41
abbrev N_range_within : List Str := ["plant", "limits", "name", "flows", "low_flows", "high_flows", "others", "_", "tail", "head", "low", "high", "less", "low_lot", "more", "high_lot", "line"]
theorem sc_range_within : FnScope N_range_within ["plant", "limits", "name"] (defScope s_range_within) := ⟨rfl, rfl, rfl, by decide +kernel, rfl, by decide +kernel, by decide +kernel⟩
def spRangeW (C CR : Addr) : Sp := fun vs H Q _ => ∃ (a li : Addr) (p : Pl) (ls : List Str) (lo hi : Str → Int) (n : Str), vs = [.ref a, .ref li, .str n] ∧ PlAt C H a p ∧ PlOk p ∧ LimAt H li ls lo hi ∧ ls.Perm p.ns ∧ n ∈ p.ns ∧
  (∀ H', Same H H' → (∀ g, ¬ Ok p lo hi g) → Q .non H') ∧ ∀ H' r dx fs l h, Same H H' → H r = none → H' r = some (.ins CR dx fs) → RgF fs l h → Ext p lo hi n l h → Q (.ref r) H'
theorem ok_range_within (T : Txt K mg C CM CR) {f : Addr} {fd : FuncData} (D : DefIn K mg "range_within" s_range_within f fd) (m_stream_named : Met P w K mg base 1 C "stream_named" (spNamed C)) (c_flows_within : Cal P w K mg base 7 "flows_within" (spWithin C)) (c_lines_of : Cal P w K mg base 3 "lines_of" (spLines C))
    (c_pushed_to : Cal P w K mg base 4 "pushed_to" (spPushed C)) (m_Range : Mak P w K mg base 1 "Range" CR (spRange CR)) : Cal P w K mg base 8 "range_within" (spRangeW C CR) := by
  refine cal_of (N := N_range_within) D (ps := ["plant", "limits", "name"]) (fun _ _ _ _ _ _ us hl => match us, hl with | [_, _, _], _ => rfl) sc_range_within (fun vs H Q E h => ?_) (fun cdv A outer s H vs Q E hr h => ?_)
  · obtain ⟨a, li, p, ls, lo, hi, n, rfl, _⟩ := h
    rfl
  have hu := hu_of hr
  obtain ⟨a, li, p, ls, lo, hi, n, rfl, hp, F, hl, pm, hn, q0, q1⟩ := h
  obtain ⟨dx0, k0, s00, e0⟩ := plAt_ins hp
  have l24 : ls.length ≤ 24 := by
    rw [pm.length_eq]
    exact F.nl
  have mn : n ∈ ls := pm.mem_iff.mpr hn
  refine ⟨_, (pss_cut (ps_asg (pe_m m_stream_named hr (by decide) (pv 0) (pa_cons (pv 2) pa_nil)) (pg_tup (by rfl) (pgs_cons (pg_name (i := 7) sc_range_within.nd rfl (by first | exact Or.inl rfl | exact Or.inr rfl)) (pgs_cons (pg_name (i := 8) sc_range_within.nd rfl (by first | exact Or.inl rfl | exact Or.inr rfl)) (pgs_cons (pg_name (i := 9) sc_range_within.nd rfl (by first | exact Or.inl rfl | exact Or.inr rfl)) (pgs_cons (pg_name (i := 7) sc_range_within.nd rfl (by first | exact Or.inl rfl | exact Or.inr rfl)) (pgs_cons (pg_name (i := 7) sc_range_within.nd rfl (by first | exact Or.inl rfl | exact Or.inr rfl)) pgs_nil)))))))
      (pss_cons (ps_set (i := 3) sc_range_within.nd rfl (by first | exact Or.inl rfl | exact Or.inr rfl) (pe_c c_flows_within hr (by decide) (by rfl) (pa_cons (pv 0) (pa_cons (pv 1) pa_nil))))
      (pss_cons (ps_if (pt_cmpR op_isN (pv 3) pe_non (nomark _)) (pss_one (ps_ret pe_non)) pss_nil)
      (pss_cons (ps_asg (pe_dget hu (pv 1) (pv 2) (fun _ _ => rfl)) (pg_tup (by rfl) (pgs_cons (pg_name (i := 10) sc_range_within.nd rfl (by first | exact Or.inl rfl | exact Or.inr rfl)) (pgs_cons (pg_name (i := 11) sc_range_within.nd rfl (by first | exact Or.inl rfl | exact Or.inr rfl)) pgs_nil))))
      (pss_cons (ps_set (i := 4) sc_range_within.nd rfl (by first | exact Or.inl rfl | exact Or.inr rfl) (pe_callTy call_dictD (by rfl) T.dict (by decide +kernel) (pa_cons (pv 3) pa_nil)))
      (pss_cut (ps_set (i := 5) sc_range_within.nd rfl (by first | exact Or.inl rfl | exact Or.inr rfl) (pe_callTy call_dictD (by rfl) T.dict (by decide +kernel) (pa_cons (pv 3) pa_nil)))
      (pss_cons (ps_if (pt_cmpR op_eq (pv 8) (pv 9) (nomark _)) (pss_cons (ps_dput hu (pv 4) (pv 2) (pv 10) rfl)
      (pss_cons (ps_dput hu (pv 5) (pv 2) (pv 11) rfl)
      (pss_one (ps_ret (pe_mk m_Range hr (by decide) (by rfl) (pa_cons (pv 10) (pa_cons (pv 11) (pa_cons (pv 4) (pa_cons (pv 5) (pa_cons pe_non (pa_cons pe_non pa_nil))))))))))) pss_nil)
      (pss_cut (ps_setLc (i := 6) (own := [("line", 16)]) (by rfl) sc_range_within.nd rfl rfl (sw_true rfl rfl rfl (by decide +kernel)) (pi_list (pe_c c_lines_of hr (by decide) (by rfl) (pa_cons (pv 0) pa_nil))) (blkOk_by (own := [("line", 16)]) (N := N_range_within) (sc := defScope s_range_within) (by decide +kernel)) (fun _ _ _ _ _ => (pg_name (i := 16) sc_range_within.nd rfl (by first | exact Or.inl rfl | exact Or.inr rfl))) (fun _ _ _ _ _ => (pts_one (pt_cmpR op_ne (pe_ix (ix_tK (K := K) rfl) (pv 16) pe_int (fun _ _ => rfl)) (pv 2) (nomark _)))) (fun _ _ _ _ _ => (pv 16)))
      (pss_cut (ps_asg (pe_c c_pushed_to hr (by decide) (by rfl) (pa_cons (pv 0) (pa_cons (pv 6) (pa_cons (pv 1) (pa_cons (pv 4) (pa_cons (pv 8) (pa_cons (pv 9) (pa_cons (pe_op op_sub (pe_dget hu (pv 3) (pv 2) (fun _ _ => rfl)) (pv 10)) pa_nil)))))))) (pg_tup (by rfl) (pgs_cons (pg_name (i := 12) sc_range_within.nd rfl (by first | exact Or.inl rfl | exact Or.inr rfl)) (pgs_cons (pg_name (i := 13) sc_range_within.nd rfl (by first | exact Or.inl rfl | exact Or.inr rfl)) pgs_nil))))
      (pss_cut (ps_asg (pe_c c_pushed_to hr (by decide) (by rfl) (pa_cons (pv 0) (pa_cons (pv 6) (pa_cons (pv 1) (pa_cons (pv 5) (pa_cons (pv 9) (pa_cons (pv 8) (pa_cons (pe_op op_sub (pv 11) (pe_dget hu (pv 3) (pv 2) (fun _ _ => rfl))) pa_nil)))))))) (pg_tup (by rfl) (pgs_cons (pg_name (i := 14) sc_range_within.nd rfl (by first | exact Or.inl rfl | exact Or.inr rfl)) (pgs_cons (pg_name (i := 15) sc_range_within.nd rfl (by first | exact Or.inl rfl | exact Or.inr rfl)) pgs_nil))))
      (pss_cons (ps_daug hu (pv 4) (pv 2) (pv 12) in_sub (fun _ _ _ => rfl))
      (pss_cons (ps_daug hu (pv 5) (pv 2) (pv 14) in_add (fun _ _ _ => rfl))
      (pss_one (ps_ret (pe_mk m_Range hr (by decide) (by rfl) (pa_cons (pe_dget hu (pv 4) (pv 2) (fun _ _ => rfl)) (pa_cons (pe_dget hu (pv 5) (pv 2) (fun _ _ => rfl)) (pa_cons (pv 4) (pa_cons (pv 5) (pa_cons (pv 13) (pa_cons (pv 15) pa_nil))))))))))))))))))))), ?_⟩
  refine ⟨fun σ' H' => H = H' ∧ ∃ y7, σ' = [some (.ref a), some (.ref li), some (.str n), none, none, none, none, y7, some (.str (p.tl n)), some (.str (p.hd n)), none, none, none, none, none, none, none], ⟨.ref a, rfl, a, dx0, _, rfl, e0, no_sd _ _, _, rfl, a, p, n, rfl, hp, hn, fun t ht => ⟨t, _, rfl, SqT.of ht, rfl, _, _, rfl, _, _, rfl, _, _, rfl, _, _, rfl, _, _, rfl, rfl, rfl, _, rfl⟩⟩, ?_⟩
  rintro σ _ ⟨rfl, y7, rfl⟩
  refine ⟨.ref a, rfl, .ref li, rfl, a, li, p, ls, lo, hi, rfl, hp, F, hl, pm, fun H1 s1 no => ⟨_, rfl, rfl, _, rfl, iteT (q0 H1 s1 no)⟩, fun H1 fa f s1 nfa hf ok => ⟨_, rfl, rfl, _, rfl, iteF ?_⟩⟩
  have wn := ok.1 n hn
  have hl1 := hl.same s1
  obtain ⟨tt, rd1, ht1⟩ := id hl1
  refine ⟨.ref li, rfl, _, rfl, li, _, rfl, dget rd1 mn, tt n, _, rfl, SqT.of (ht1 n mn), rfl, _, _, rfl, _, _, rfl, rfl, ?_⟩
  refine ⟨_, rfl, fa, _, rfl, Rd.of hf, fun lf hlf => ?_⟩
  have s2 := same_upd (o := .dK (kvs ls (gI f))) hlf
  have nlf : H lf = none := s1.free hlf
  have falf : fa ≠ lf := ne_of_none hf hlf
  have lilf : li ≠ lf := fun z => rd_ne hl.choose_spec.1 nlf z.symm
  refine ⟨fun σ' H3 => ∃ hf', σ' = [some (.ref a), some (.ref li), some (.str n), some (.ref fa), some (.ref lf), some (.ref hf'), none, y7, some (.str (p.tl n)), some (.str (p.hd n)), some (.int (lo n)), some (.int (hi n)), none, none, none, none, none] ∧ Same H H3 ∧ H hf' = none ∧ FlAt H3 lf ls f ∧ FlAt H3 hf' ls f ∧ FlAt H3 fa ls f ∧ lf ≠ hf' ∧ fa ≠ hf',
    ⟨_, rfl, fa, _, rfl, Rd.of (s2 _ _ hf), fun hf' hhf => ⟨hf', rfl, (s1.trans s2).trans (same_upd hhf), (s1.trans s2).free hhf, same_upd hhf _ _ upd_same, upd_same, same_upd hhf _ _ (s2 _ _ hf), ne_of_none upd_same hhf, ne_of_none (s2 _ _ hf) hhf⟩⟩, ?_⟩
  rintro σ H3 ⟨hf', rfl, s03, nhf, fl3, fh3, ff3, lfhf, fahf⟩
  have lihf : li ≠ hf' := fun z => rd_ne hl.choose_spec.1 nhf z.symm
  refine ⟨_, rfl, _, rfl, rfl, _, rfl, ite2 (fun e => ?_) fun e => ?_⟩
  · -- a loop
    have e' : p.tl n = p.hd n := V.str.inj (of_decide_eq_true e)
    refine ⟨_, rfl, .ref lf, rfl, _, rfl, lf, _, rfl, dput fl3 mn (by omega), ?_⟩
    refine ⟨_, rfl, .ref hf', rfl, _, rfl, hf', _, rfl, dput (by rw [upd_ne lfhf.symm]; exact fh3) mn (by omega), ?_⟩
    have s04 := s03.mut (o := .dK (kvs ls (gset (gI f) n (.int (lo n))))) nlf
    have s05 := s04.mut (o := .dK (kvs ls (gset (gI f) n (.int (hi n))))) nhf
    refine ⟨_, rfl, _, rfl, .ref lf, rfl, .ref hf', rfl, fun x dx hx hdx ndx => ?_⟩
    have s6 : Same _ _ := (same_upd (o := .own x) hdx).mut (o := .ins CR dx []) hx
    refine ⟨x, dx, lf, hf', lo n, hi n, .non, .non, _, _, rfl, upd_same, Rd.of (s6 _ _ (by rw [upd_ne lfhf]; exact upd_same)), Rd.of (s6 _ _ upd_same), .inl rfl, .inl rfl, fun H' fs b hx' rg => ⟨rfl, ?_⟩⟩
    exact q1 H' x dx fs _ _ (fun b' o' e' => But.same (s05.trans s6) b (s05.free hx) b' o' e') (s05.free hx) hx' rg (loop_ext F hn ok e')
  · have e' : p.tl n ≠ p.hd n := fun z => e (decide_eq_true (by rw [z]))
    -- others
    have lin24 : p.lin.length ≤ 24 := Nat.le_trans (List.length_filter_le _ _) F.nl
    have hin : ∀ m ∈ p.oth n, m ∈ ls ∧ m ∈ ls := fun m hm => have q := pm.mem_iff.mpr (mem_oth hm).1; ⟨q, q⟩
    have oth24 : (p.oth n).length ≤ 24 := Nat.le_trans (List.length_filter_le _ _) lin24
    refine ⟨fun σ' H5 => ∃ ot y16, σ' = [some (.ref a), some (.ref li), some (.str n), some (.ref fa), some (.ref lf), some (.ref hf'), some (.ref ot), y7, some (.str (p.tl n)), some (.str (p.hd n)), some (.int (lo n)), some (.int (hi n)), none, none, none, none, y16] ∧ Same H3 H5 ∧ LinAt H5 ot (p.oth n) p.tl p.hd, ?_, ?_⟩
    · refine ⟨.ref a, rfl, a, p, rfl, hp.same s03, F, fun H4 r4 s4 nr4 ⟨tl, hr4, ht4⟩ => ⟨r4, rfl, ⟨_, SqL.of hr4⟩, fun ot hot => ?_⟩⟩
      refine lc_it (walk_list (xs := p.lin.map fun n => V.ref (tl n))) (LcP H4 ot fun i acc _ => acc = ((p.lin.take i).filter fun m => !decide (m = n)).map fun n => V.ref (tl n)) (LcP.start hot rfl) (fun i H' _ z => SqL.of (z.1 _ _ hr4)) ?_ ?_
      · rintro i v H5 H6 hi ⟨s5, acc, hc, rfl⟩ ⟨rfl, hv⟩
        obtain ⟨x, rfl, hx⟩ := get_map hv
        obtain ⟨g1, g2⟩ := flt_putG hot s5 hx lin24 hc
        refine ⟨rfl, .ref (tl x), rfl, tl x, _, 0, .str x, rfl, rfl, SqT.of (s5 _ _ (ht4 x (List.mem_of_getElem? hx))), rfl, _, rfl, rfl, _, rfl, ?_⟩
        have ed : (!decide (V.str x = V.str n)) = (!decide (x = n)) := by
          by_cases c : x = n
          · rw [c, decide_eq_true rfl, decide_eq_true rfl]
          · rw [decide_eq_false c, decide_eq_false fun z => c (V.str.inj z)]
        rw [ed]
        exact iteB (fun e => ⟨_, rfl, g1 e⟩) g2
      rintro H5 ⟨s5, acc, hot5, rfl⟩
      rw [List.length_map, List.take_length] at hot5
      exact ⟨ot, _, rfl, s4.trans s5, tl, hot5, fun m hm => s5 _ _ (ht4 m (List.mem_filter.mp hm).1)⟩
    rintro σ H5 ⟨ot, y16, rfl, s35, hot5'⟩
    have s05 := s03.trans s35
    have fl5 := s35 _ _ fl3
    have fh5 := s35 _ _ fh3
    have ff5 := s35 _ _ ff3
    -- low
    refine ⟨fun σ' H6 => ∃ m1 v1 f1, σ' = [some (.ref a), some (.ref li), some (.str n), some (.ref fa), some (.ref lf), some (.ref hf'), some (.ref ot), y7, some (.str (p.tl n)), some (.str (p.hd n)), some (.int (lo n)), some (.int (hi n)), some (.int m1), some v1, none, none, y16] ∧ But lf H5 H6 ∧ FlAt H6 lf ls f1 ∧ LotAt H6 v1 ∧
      Moved p.tl p.hd lo hi (p.oth n) (p.tl n) (p.hd n) f f1 m1 ∧ 0 ≤ m1 ∧ m1 ≤ f n - lo n ∧ (m1 = f n - lo n ∨ ∃ S, Shut p.tl p.hd lo hi (p.oth n) f1 S ∧ S (p.tl n) = true ∧ S (p.hd n) = false), ?_, ?_⟩
    · refine ⟨.ref a, rfl, .ref ot, rfl, .ref li, rfl, .ref lf, rfl, _, rfl, _, rfl, .ref fa, rfl, _, rfl, fa, _, rfl, dget (Rd.of ff5) mn, _, rfl, f n, lo n, rfl, rfl, a, ot, li, lf, p, p.oth n, ls, ls, p.tl, p.hd, lo, hi, f, _, _, f n - lo n, rfl, hp.same s05, F, hot5', hl.same s05, fl5, lilf, hin, oth24, l24, by omega, fun H6 r6 f1 m1 v1 b6 fl6 M1 m10 m11 alt1 hr6 lot1 => ?_⟩
      exact ⟨r6, _, rfl, SqT.of hr6, rfl, _, _, rfl, _, _, rfl, rfl, _, _, _, rfl, b6, fl6, lot1, M1, m10, m11, alt1⟩
    rintro σ H6 ⟨m1, v1, f1, rfl, b6, fl6, lot1, M1, m10, m11, alt1⟩
    have s06 : Same H H6 := But.same s05 b6 nlf
    have fh6 := b6 _ _ lfhf.symm fh5
    have ff6 := b6 _ _ falf ff5
    have ot6 := hot5'.but b6 fl5
    -- high
    refine ⟨fun σ' H7 => ∃ m2 v2 f2, σ' = [some (.ref a), some (.ref li), some (.str n), some (.ref fa), some (.ref lf), some (.ref hf'), some (.ref ot), y7, some (.str (p.tl n)), some (.str (p.hd n)), some (.int (lo n)), some (.int (hi n)), some (.int m1), some v1, some (.int m2), some v2, y16] ∧ But hf' H6 H7 ∧ FlAt H7 hf' ls f2 ∧ LotAt H7 v2 ∧
      Moved p.tl p.hd lo hi (p.oth n) (p.hd n) (p.tl n) f f2 m2 ∧ 0 ≤ m2 ∧ m2 ≤ hi n - f n ∧ (m2 = hi n - f n ∨ ∃ S, Shut p.tl p.hd lo hi (p.oth n) f2 S ∧ S (p.hd n) = true ∧ S (p.tl n) = false), ?_, ?_⟩
    · refine ⟨.ref a, rfl, .ref ot, rfl, .ref li, rfl, .ref hf', rfl, _, rfl, _, rfl, _, rfl, .ref fa, rfl, _, rfl, fa, _, rfl, dget (Rd.of ff6) mn, hi n, f n, rfl, rfl, a, ot, li, hf', p, p.oth n, ls, ls, p.tl, p.hd, lo, hi, f, _, _, hi n - f n, rfl, hp.same s06, F, ot6, hl.same s06, fh6, lihf, hin, oth24, l24, by omega, fun H7 r7 f2 m2 v2 b7 fh7 M2 m20 m21 alt2 hr7 lot2 => ?_⟩
      exact ⟨r7, _, rfl, SqT.of hr7, rfl, _, _, rfl, _, _, rfl, rfl, _, _, _, rfl, b7, fh7, lot2, M2, m20, m21, alt2⟩
    rintro σ H7 ⟨m2, v2, f2, rfl, b7, fh7, lot2, M2, m20, m21, alt2⟩
    have s07 : Same H H7 := But.same s06 b7 nhf
    have fl7 := b7 _ _ lfhf fl6
    have lot17 := lot1.but b7 (fun xs z => by rw [fh6] at z; cases z)
    obtain ⟨lo1, lo2⟩ := low_of F hn ok M1 m10 m11 alt1
    obtain ⟨hi1, hi2⟩ := high_of F hn ok M2 m20 m21 alt2
    -- the two numbers
    refine ⟨.ref lf, rfl, _, rfl, lf, _, rfl, dget (Rd.of fl7) mn, _, rfl, _, _, rfl, rfl, _, dput fl7 mn (by omega), ?_⟩
    rw [gI_set]
    have b8 : But lf H7 (upd H7 lf (.dK (kvs ls (gI (fset f1 n (f1 n - m1)))))) := But.upd _ _
    have fh8 := b8 _ _ lfhf.symm fh7
    refine ⟨.ref hf', rfl, _, rfl, hf', _, rfl, dget (Rd.of fh8) mn, _, rfl, _, _, rfl, rfl, _, dput fh8 mn (by omega), ?_⟩
    rw [gI_set]
    have b9 : But hf' (upd H7 lf (.dK (kvs ls (gI (fset f1 n (f1 n - m1)))))) (upd (upd H7 lf (.dK (kvs ls (gI (fset f1 n (f1 n - m1)))))) hf' (.dK (kvs ls (gI (fset f2 n (f2 n + m2)))))) := But.upd _ _
    have fl9 := b9 _ _ lfhf upd_same
    have lot19 := (lot17.but b8 (fun xs z => by rw [fl7] at z; cases z)).but b9 (fun xs z => by rw [fh8] at z; cases z)
    have lot29 := (lot2.but b8 (fun xs z => by rw [fl7] at z; cases z)).but b9 (fun xs z => by rw [fh8] at z; cases z)
    have s08 := s07.mut (o := .dK (kvs ls (gI (fset f1 n (f1 n - m1))))) nlf
    have s09 := s08.mut (o := .dK (kvs ls (gI (fset f2 n (f2 n + m2))))) nhf
    refine ⟨.ref lf, rfl, _, rfl, lf, _, rfl, dget (Rd.of fl9) mn, .ref hf', rfl, _, rfl, hf', _, rfl, dget (Rd.of upd_same) mn, .ref lf, rfl, .ref hf', rfl, _, rfl, _, rfl, fun x dx hx hdx ndx => ?_⟩
    have s10 : Same _ _ := (same_upd (o := .own x) hdx).mut (o := .ins CR dx []) hx
    refine ⟨x, dx, lf, hf', _, _, _, _, _, _, rfl, upd_same, Rd.of (s10 _ _ fl9), Rd.of (s10 _ _ upd_same), lot19.same s10, lot29.same s10, fun H' fs b hx' rg => ⟨rfl, ?_⟩⟩
    refine q1 H' x dx fs _ _ (fun b' o' e' => But.same (s09.trans s10) b (s09.free hx) b' o' e') (s09.free hx) hx' rg ?_
    rw [fset_same, fset_same]
    exact ⟨lo1, hi1, fun g hg => ⟨lo2 g hg, hi2 g hg⟩⟩
end
end Ms
set_option Elab.async false
set_option linter.all false
set_option maxRecDepth 100000
set_option maxHeartbeats 4000000
/-! Readings, ranges of all streams. -/
namespace Ms
open PySem PySem.Spec PyProof.Rows L2
/-! ### dicts of new tuples -/
def DTab (H : Hp) (fo : Addr) (done : List Str) (row : Str → List V) : Prop := ∃ t : Str → Addr, H fo = some (.dK (kvs done fun m => V.ref (t m))) ∧ ∀ m ∈ done, H (t m) = some (.tup (row m))
theorem dtab_put {H : Hp} {fo q : Addr} {done : List Str} {row : Str → List V} {t : Str → Addr} {n : Str} (h1 : H fo = some (.dK (kvs done fun m => V.ref (t m)))) (h2 : ∀ m ∈ done, H (t m) = some (.tup (row m))) (hn : n ∉ done) (hq : H q = none) :
    DTab (upd (upd H q (.tup (row n))) fo (.dK (kvs (done ++ [n]) (gset (fun m => V.ref (t m)) n (.ref q))))) fo (done ++ [n]) row := by
  have qf : q ≠ fo := (ne_of_none h1 hq).symm
  refine ⟨fun m => if m = n then q else t m, ?_, fun m hm => ?_⟩
  · rw [upd_same]
    refine congrArg (fun z => some (HO.dK z)) (kvs_congr fun m _ => ?_)
    unfold gset
    show (if m = n then V.ref q else V.ref (t m)) = V.ref (if m = n then q else t m)
    split <;> rfl
  · show upd (upd H q _) fo _ (if m = n then q else t m) = _
    by_cases c : m = n
    · rw [if_pos c, upd_ne qf, upd_same, c]
    · have hm' : m ∈ done := (List.mem_append.mp hm).elim id fun x => absurd (List.mem_singleton.mp x) c
      have e := h2 m hm'
      rw [if_neg c, upd_ne (fun x => by rw [x, h1] at e; cases e), upd_ne (ne_of_none e hq)]
      exact e
theorem DTab.lim {H : Hp} {fo : Addr} {done : List Str} {lo hi : Str → Int} (h : DTab H fo done fun n => [.int (lo n), .int (hi n)]) : LimAt H fo done lo hi := by
  obtain ⟨t, a, b⟩ := h
  exact ⟨t, Rd.of a, b⟩
theorem DTab.start (H : Hp) (fo : Addr) (row : Str → List V) : DTab (upd H fo (.dK [])) fo [] row := ⟨fun _ => 0, upd_same, fun m h => (nomatch h)⟩
section
variable {P : Program} {w : World} {K : PySem.W.Frag} {mg : Str → Option Value} {base : Heap} {C CM CR : Addr}
/-! ### check_readings -/
abbrev s_check_readings : Stmt := topS 34
abbrev N_check_readings : List Str := ["plant", "readings", "names", "name", "reading", "part"]
theorem sc_check_readings : FnScope N_check_readings ["plant", "readings"] (defScope s_check_readings) := ⟨rfl, rfl, rfl, by decide +kernel, rfl, by decide +kernel, by decide +kernel⟩
/-- readings: numbers nu, tolerances to -/
structure RdgOk (p : Pl) (lr : List Str) (nu to : Str → Int) : Prop where
  sub : ∀ n ∈ lr, n ∈ p.ns
  few : lr.length ≤ 24
  bd : ∀ n ∈ lr, 0 ≤ nu n ∧ nu n ≤ 1000000 ∧ 0 ≤ to n ∧ to n ≤ 1000000
def spChkRd (C : Addr) : Sp := fun vs H Q _ => ∃ (a ra : Addr) (p : Pl) (lr : List Str) (nu to : Str → Int), vs = [.ref a, .ref ra] ∧ PlAt C H a p ∧ PlOk p ∧ LimAt H ra lr nu to ∧ RdgOk p lr nu to ∧ ∀ H', Same H H' → Q .non H'
theorem ok_check_readings (T : Txt K mg C CM CR) {f : Addr} {fd : FuncData} (D : DefIn K mg "check_readings" s_check_readings f fd) (m_stream_names : Met P w K mg base 1 C "stream_names" (spSNames C)) : Cal P w K mg base 2 "check_readings" (spChkRd C) := by
  refine cal_of (N := N_check_readings) D (ps := ["plant", "readings"]) (fun _ _ _ _ _ _ us hl => match us, hl with | [_, _], _ => rfl) sc_check_readings (fun vs H Q E h => ?_) (fun cdv A outer s H vs Q E hr h => ?_)
  · obtain ⟨a, ra, p, lr, nu, to, rfl, _⟩ := h
    rfl
  have hu := hu_of hr
  obtain ⟨a, ra, p, lr, nu, to, rfl, hp, F, hl, R, q⟩ := h
  obtain ⟨dx, k, s0, e0⟩ := plAt_ins hp
  have few := R.few
  refine ⟨_, (pss_cons (ps_set (i := 2) sc_check_readings.nd rfl (by first | exact Or.inl rfl | exact Or.inr rfl) (pe_m0 m_stream_names hr (by decide) (pv 0)))
      (pss_cons (ps_for PassesOwn.never rfl (pi_list (pe_callB (call_sortedD rfl) (by rfl) T.sorted (by decide +kernel) (pa_cons (pv 1) pa_nil))) (pg_name (i := 3) sc_check_readings.nd rfl (by first | exact Or.inl rfl | exact Or.inr rfl))
      (pss_one (ps_if (pt_cmpR op_notIn_seq (pv 3) (pv 2) (by with_unfolding_all rfl)) (pss_one ps_never) pss_nil)))
      (pss_one (ps_for PassesOwn.never rfl (pi_list (pe_callB (call_sortedD rfl) (by rfl) T.sorted (by decide +kernel) (pa_cons (pv 1) pa_nil))) (pg_name (i := 3) sc_check_readings.nd rfl (by first | exact Or.inl rfl | exact Or.inr rfl))
      (pss_cons (ps_set (i := 4) sc_check_readings.nd rfl (by first | exact Or.inl rfl | exact Or.inr rfl) (pe_dget hu (pv 1) (pv 3) (fun _ _ => rfl)))
      (pss_one (ps_if (PW.pt (pw_or (pt_cmpR op_ne (pe_callB call_len_seq (by rfl) T.len (by decide +kernel) (pa_cons (pv 4) pa_nil)) pe_int (nomark _)) (pw_or1 (pt_not (pt_val (pe_callB (cr_all rfl) (by rfl) T.all (by decide +kernel) (pa_cons (pe_lc (own := [("part", 5)]) (by rfl) sc_check_readings.nd (pi_tup (pv 4)) (blkOk_by (own := [("part", 5)]) (N := N_check_readings) (sc := defScope s_check_readings) (by decide +kernel)) (fun _ _ _ _ _ => (pg_name (i := 5) sc_check_readings.nd rfl (by first | exact Or.inl rfl | exact Or.inr rfl))) (fun _ _ _ _ _ => pts_nil) (fun _ _ _ _ _ => (pe_chain op_le op_le pe_int (pv 5) (pe_gc rfl T.gF)))) pa_nil))))))) (pss_one ps_never) pss_nil))))))), ?_⟩
  refine ⟨.ref a, rfl, a, dx, _, rfl, e0, no_sn _ _, a, p, rfl, hp, F, fun H1 na s1 nna hna => ?_⟩
  obtain ⟨t1, rd1, ht1⟩ := hl.same s1
  refine ⟨.ref ra, rfl, ra, _, lr, rfl, rd1, kvs_keys _ _, by omega, fun ys q1 py sy hq1 => ⟨q1, rfl, ⟨_, SqL.of upd_same⟩, ?_⟩⟩
  have s2 := same_upd (o := .lst (ys.map V.str)) hq1
  refine for_list (K := K) (a := q1) (xs := ys.map V.str) (fun i σ H' => ∃ y, σ = [some (.ref a), some (.ref ra), some (.ref na), y, none, none] ∧ Same H1 H' ∧ H' q1 = some (.lst (ys.map V.str))) ⟨none, rfl, s2, upd_same⟩ (fun i σ H' _ z => by obtain ⟨_, _, _, h⟩ := z; exact SqL.of h) ?_ ?_
  · rintro i v σ H2 hv ⟨y, rfl, s2, h2⟩
    obtain ⟨n, rfl, hn⟩ := get_str hv
    have mn := R.sub n (py.mem_iff.mp (List.mem_of_getElem? hn))
    refine ⟨_, rfl, .ref na, rfl, na, _, rfl, .inl (SqL.of (s2 _ _ hna)), rfl, flatS p.ns, false, ?_, iteF ⟨_, rfl, s2, h2⟩⟩
    show V.bl (!inV (.str n) (p.ns.map V.str)) = _
    rw [in_strs, decide_eq_true mn]
    rfl
  rintro σ H2 ⟨y, rfl, s2, h2⟩
  have s02 := s1.trans s2
  obtain ⟨t2, rd2, ht2⟩ := hl.same s02
  refine ⟨.ref ra, rfl, ra, _, lr, rfl, rd2, kvs_keys _ _, by omega, fun ys q3 py sy hq3 => ⟨q3, rfl, ⟨_, SqL.of upd_same⟩, ?_⟩⟩
  have s3 := same_upd (o := .lst (ys.map V.str)) hq3
  refine for_list (K := K) (a := q3) (xs := ys.map V.str) (fun i σ H' => ∃ y3 y4 y5, σ = [some (.ref a), some (.ref ra), some (.ref na), y3, y4, y5] ∧ Same H H' ∧ H' q3 = some (.lst (ys.map V.str))) ⟨_, _, _, rfl, s02.trans s3, upd_same⟩ (fun i σ H' _ z => by obtain ⟨_, _, _, _, _, h⟩ := z; exact SqL.of h) ?_ ?_
  · rintro i v σ H4 hv ⟨y3, y4, y5, rfl, s4, h4⟩
    obtain ⟨n, rfl, hn⟩ := get_str hv
    have mn := py.mem_iff.mp (List.mem_of_getElem? hn)
    obtain ⟨t, rd, ht⟩ := hl.same s4
    have tn := ht n mn
    obtain ⟨b1, b2, b3, b4⟩ := R.bd n mn
    refine ⟨.ref ra, rfl, _, rfl, ra, _, rfl, dget rd mn, ?_⟩
    refine ⟨_, rfl, t n, _, rfl, .inr (SqT.of tn), rfl, _, rfl, iteNS rfl ?_⟩
    refine ⟨_, rfl, t n, rfl, ⟨_, SqT.of tn⟩, fun D hD => ?_⟩
    refine lc_it (walk_tup (xs := [.int (nu n), .int (to n)])) (LcP H4 D fun i acc _ => acc = (List.replicate i true).map V.bl) (LcP.start hD rfl) (fun i H' _ z => SqT.of (z.1 _ _ tn)) ?_ ?_
    · rintro i v H5 H6 hi ⟨s5, acc, hc, rfl⟩ ⟨rfl, hv⟩
      obtain ⟨z, rfl, z0, z1⟩ : ∃ z : Int, v = .int z ∧ 0 ≤ z ∧ z ≤ 1000000 := by
        have mv := List.mem_of_getElem? hv
        simp only [List.mem_cons, List.not_mem_nil, or_false] at mv
        rcases mv with rfl | rfl
        · exact ⟨_, rfl, b1, b2⟩
        · exact ⟨_, rfl, b3, b4⟩
      refine ⟨rfl, _, rfl, 0, z, rfl, rfl, _, rfl, iteD z0 ⟨z, 1000000, rfl, rfl, ?_⟩⟩
      show ∃ acc, H6 D = some (HO.lst acc) ∧ acc.length < sizeLine ∧ LcP H4 D _ (i + 1) (upd H6 D (HO.lst (acc ++ [V.bl (decide (z ≤ 1000000))])))
      rw [decide_eq_true z1]
      refine LcP.put hD s5 hc (sz_lt ?_) ?_
      · rw [List.length_map, List.length_replicate]
        have : i < 2 := hi
        omega
      · show _ ++ [V.bl true] = _
        rw [← List.map_singleton, ← List.map_append, rep_snoc]
    · rintro H5 ⟨s5, acc, hc, rfl⟩
      refine ⟨D, _, rfl, .inl (.inl hc), ?_⟩
      rw [all_rep]
      exact ⟨true, rfl, iteF ⟨_, _, _, rfl, s4.trans s5, s5 _ _ h4⟩⟩
  · rintro σ H4 ⟨y3, y4, y5, rfl, s4, h4⟩
    exact q H4 s4
/-! ### limits_of -/
abbrev s_limits_of : Stmt := topS 35
abbrev N_limits_of : List Str := ["plant", "readings", "found", "name", "_", "low", "high", "number", "tolerance"]
theorem sc_limits_of : FnScope N_limits_of ["plant", "readings"] (defScope s_limits_of) := ⟨rfl, rfl, rfl, by decide +kernel, rfl, by decide +kernel, by decide +kernel⟩
def rLo (p : Pl) (lr : List Str) (nu to : Str → Int) (n : Str) : Int := if n ∈ lr then (if nu n - to n > p.bl n then nu n - to n else p.bl n) else p.bl n
def rHi (p : Pl) (lr : List Str) (nu to : Str → Int) (n : Str) : Int := if n ∈ lr then (if nu n + to n < p.bh n then nu n + to n else p.bh n) else p.bh n
def spLimOf (C : Addr) : Sp := fun vs H Q _ => ∃ (a ra : Addr) (p : Pl) (lr : List Str) (nu to : Str → Int), vs = [.ref a, .ref ra] ∧ PlAt C H a p ∧ PlOk p ∧ LimAt H ra lr nu to ∧ RdgOk p lr nu to ∧ ∀ H' r, Same H H' → H r = none → LimAt H' r p.ns (rLo p lr nu to) (rHi p lr nu to) → Q (.ref r) H'
theorem ok_limits_of (T : Txt K mg C CM CR) {f : Addr} {fd : FuncData} (D : DefIn K mg "limits_of" s_limits_of f fd) (c_check_readings : Cal P w K mg base 2 "check_readings" (spChkRd C)) (p_streams : Prp P w K mg base 1 C "streams" (spStreams C)) : Cal P w K mg base 3 "limits_of" (spLimOf C) := by
  refine cal_of (N := N_limits_of) D (ps := ["plant", "readings"]) (fun _ _ _ _ _ _ us hl => match us, hl with | [_, _], _ => rfl) sc_limits_of (fun vs H Q E h => ?_) (fun cdv A outer s H vs Q E hr h => ?_)
  · obtain ⟨a, ra, p, lr, nu, to, rfl, _⟩ := h
    rfl
  have hu := hu_of hr
  obtain ⟨a, ra, p, lr, nu, to, rfl, hp, F, hl, R, q⟩ := h
  have n24 := F.nl
  refine ⟨_, (pss_cons (ps_expr (pe_c c_check_readings hr (by decide) (by rfl) (pa_cons (pv 0) (pa_cons (pv 1) pa_nil))))
      (pss_cons (ps_set (i := 2) sc_limits_of.nd rfl (by first | exact Or.inl rfl | exact Or.inr rfl) pe_dnewK)
      (pss_cons (ps_for PassesOwn.never rfl (pi_list (pe_p p_streams hr (by decide) (pv 0))) (pg_tup (by rfl) (pgs_cons (pg_name (i := 3) sc_limits_of.nd rfl (by first | exact Or.inl rfl | exact Or.inr rfl)) (pgs_cons (pg_name (i := 4) sc_limits_of.nd rfl (by first | exact Or.inl rfl | exact Or.inr rfl)) (pgs_cons (pg_name (i := 4) sc_limits_of.nd rfl (by first | exact Or.inl rfl | exact Or.inr rfl)) (pgs_cons (pg_name (i := 5) sc_limits_of.nd rfl (by first | exact Or.inl rfl | exact Or.inr rfl)) (pgs_cons (pg_name (i := 6) sc_limits_of.nd rfl (by first | exact Or.inl rfl | exact Or.inr rfl)) pgs_nil))))))
      (pss_cons (ps_if (pt_cmp (pc_din hu (pv 3) (pv 1))) (pss_cons (ps_asg (pe_dget hu (pv 1) (pv 3) (fun _ _ => rfl)) (pg_tup (by rfl) (pgs_cons (pg_name (i := 7) sc_limits_of.nd rfl (by first | exact Or.inl rfl | exact Or.inr rfl)) (pgs_cons (pg_name (i := 8) sc_limits_of.nd rfl (by first | exact Or.inl rfl | exact Or.inr rfl)) pgs_nil))))
      (pss_cons (ps_set (i := 5) sc_limits_of.nd rfl (by first | exact Or.inl rfl | exact Or.inr rfl) (pe_callB (call_max2 rfl) (by rfl) T.max (by decide +kernel) (pa_cons (pv 5) (pa_cons (pe_op op_sub (pv 7) (pv 8)) pa_nil))))
      (pss_one (ps_set (i := 6) sc_limits_of.nd rfl (by first | exact Or.inl rfl | exact Or.inr rfl) (pe_callB (call_min2 rfl) (by rfl) T.min (by decide +kernel) (pa_cons (pv 6) (pa_cons (pe_op op_add (pv 7) (pv 8)) pa_nil))))))) pss_nil)
      (pss_one (ps_dput hu (pv 2) (pv 3) (pe_tup (pa_cons (pv 5) (pa_cons (pv 6) pa_nil))) rfl))))
      (pss_one (ps_ret (pv 2)))))), ?_⟩
  refine ⟨.ref a, rfl, .ref ra, rfl, a, ra, p, lr, nu, to, rfl, hp, F, hl, R, fun H1 s1 => fun fo hfo => ?_⟩
  have s2 := same_upd (o := .dK []) hfo
  have nfo : H fo = none := s1.free hfo
  have s02 := s1.trans s2
  have hp2 := hp.same s02
  obtain ⟨dx, k, s0, e2⟩ := plAt_ins hp2
  let row : Str → List V := fun n => [.int (rLo p lr nu to n), .int (rHi p lr nu to n)]
  refine ⟨.ref a, rfl, a, dx, _, rfl, e2, a, p, rfl, hp2, fun H3 r s3 nr ⟨t, hr3, ht3⟩ => ⟨r, rfl, ⟨_, SqL.of hr3⟩, ?_⟩⟩
  refine for_list (K := K) (a := r) (xs := p.ns.map fun n => V.ref (t n)) (fun i σ H' => ∃ y3 y4 y5 y6 y7 y8, σ = [some (.ref a), some (.ref ra), some (.ref fo), y3, y4, y5, y6, y7, y8] ∧ But fo H3 H' ∧ Same H H' ∧ DTab H' fo (p.ns.take i) row) ⟨none, none, none, none, none, none, rfl, But.refl _ _, s02.trans s3, ?_⟩ (fun i σ H' _ z => ?_) ?_ ?_
  · obtain ⟨t0, a0, b0⟩ := DTab.start H1 fo row
    exact ⟨t0, s3 _ _ a0, fun m h => (nomatch h)⟩
  · obtain ⟨_, _, _, _, _, _, _, b, _⟩ := z
    refine SqL.of (b _ _ (fun z => ?_) hr3)
    rw [z, s3 _ _ (upd_same : upd H1 fo (.dK []) fo = _)] at hr3
    cases hr3
  · rintro i v σ H4 hv ⟨y3, y4, y5, y6, y7, y8, rfl, b4, s4, tf, h4, ht4⟩
    obtain ⟨n, rfl, hn⟩ := get_map hv
    have mn := List.mem_of_getElem? hn
    have new := take_new F.nd hn
    have tn := ht3 n mn
    have tn4 := b4 _ _ (fun z => by rw [z, s3 _ _ (upd_same : upd H1 fo (.dK []) fo = _)] at tn; cases tn) tn
    obtain ⟨tr, rd, htr⟩ := hl.same s4
    have tl : (p.ns.take i).length < 1000 := by
      rw [List.length_take]
      omega
    have ek : p.ns.take (i + 1) = p.ns.take i ++ [n] := by rw [List.take_add_one, hn]; rfl
    refine ⟨t n, _, rfl, SqT.of tn4, rfl, _, _, rfl, _, _, rfl, _, _, rfl, _, _, rfl, _, _, rfl, rfl, ?_⟩
    refine ⟨_, rfl, .ref ra, rfl, ra, _, rfl, dgetO rd, _, rfl, ?_⟩
    rw [val_some]
    by_cases c : n ∈ lr
    · rw [decide_eq_true c]
      refine iteT ⟨.ref ra, rfl, _, rfl, ra, _, rfl, dget rd c, tr n, _, rfl, SqT.of (htr n c), rfl, _, _, rfl, _, _, rfl, rfl, ?_⟩
      refine ⟨_, rfl, _, rfl, _, rfl, _, _, rfl, rfl, _, _, rfl, ?_⟩
      refine ⟨_, rfl, _, rfl, _, rfl, _, _, rfl, rfl, _, _, rfl, ?_⟩
      refine ⟨_, rfl, _, rfl, by show 2 ≤ sizeLine; decide, fun q5 hq5 => ?_⟩
      have er : [V.int (if nu n - to n > p.bl n then nu n - to n else p.bl n), V.int (if nu n + to n < p.bh n then nu n + to n else p.bh n)] = row n := by
        show _ = [V.int (rLo p lr nu to n), V.int (rHi p lr nu to n)]
        unfold rLo rHi
        rw [if_pos c, if_pos c]
      rw [er]
      have s5 := same_upd (o := .tup (row n)) hq5
      refine ⟨.ref fo, rfl, _, rfl, fo, _, rfl, dputN (s5 _ _ h4) new tl, _, _, _, _, _, _, rfl, (b4.trans s5.but).trans (But.upd _ _), (s4.trans s5).mut nfo, ?_⟩
      rw [ek]
      exact dtab_put h4 ht4 new hq5
    · rw [decide_eq_false c]
      refine iteF ?_
      refine ⟨_, rfl, _, rfl, by show 2 ≤ sizeLine; decide, fun q5 hq5 => ?_⟩
      have er : [V.int (p.bl n), V.int (p.bh n)] = row n := by
        show _ = [V.int (rLo p lr nu to n), V.int (rHi p lr nu to n)]
        unfold rLo rHi
        rw [if_neg c, if_neg c]
      rw [er]
      have s5 := same_upd (o := .tup (row n)) hq5
      refine ⟨.ref fo, rfl, _, rfl, fo, _, rfl, dputN (s5 _ _ h4) new tl, _, _, _, _, _, _, rfl, (b4.trans s5.but).trans (But.upd _ _), (s4.trans s5).mut nfo, ?_⟩
      rw [ek]
      exact dtab_put h4 ht4 new hq5
  · rintro σ H4 ⟨y3, y4, y5, y6, y7, y8, rfl, b4, s4, tab⟩
    rw [List.length_map, List.take_length] at tab
    exact ⟨_, rfl, q H4 fo s4 nfo tab.lim⟩
/-! ### range_of -/
abbrev s_range_of : Stmt := topS 42
abbrev N_range_of : List Str := ["plant", "readings", "name"]
theorem sc_range_of : FnScope N_range_of ["plant", "readings", "name"] (defScope s_range_of) := ⟨rfl, rfl, rfl, by decide +kernel, rfl, by decide +kernel, by decide +kernel⟩
def spRangeOf (C CR : Addr) : Sp := fun vs H Q _ => ∃ (a ra : Addr) (p : Pl) (lr : List Str) (nu to : Str → Int) (n : Str), vs = [.ref a, .ref ra, .str n] ∧ PlAt C H a p ∧ PlOk p ∧ LimAt H ra lr nu to ∧ RdgOk p lr nu to ∧ n ∈ p.ns ∧
  (∀ H', Same H H' → (∀ g, ¬ Ok p (rLo p lr nu to) (rHi p lr nu to) g) → Q .non H') ∧ ∀ H' r dx fs l h, Same H H' → H r = none → H' r = some (.ins CR dx fs) → RgF fs l h → Ext p (rLo p lr nu to) (rHi p lr nu to) n l h → Q (.ref r) H'
theorem ok_range_of (T : Txt K mg C CM CR) {f : Addr} {fd : FuncData} (D : DefIn K mg "range_of" s_range_of f fd) (c_limits_of : Cal P w K mg base 3 "limits_of" (spLimOf C)) (c_range_within : Cal P w K mg base 8 "range_within" (spRangeW C CR)) : Cal P w K mg base 9 "range_of" (spRangeOf C CR) := by
  refine cal_of (N := N_range_of) D (ps := ["plant", "readings", "name"]) (fun _ _ _ _ _ _ us hl => match us, hl with | [_, _, _], _ => rfl) sc_range_of (fun vs H Q E h => ?_) (fun cdv A outer s H vs Q E hr h => ?_)
  · obtain ⟨a, ra, p, lr, nu, to, n, rfl, _⟩ := h
    rfl
  have hu := hu_of hr
  obtain ⟨a, ra, p, lr, nu, to, n, rfl, hp, F, hl, R, hn, q0, q1⟩ := h
  refine ⟨_, (pss_one (ps_ret (pe_c c_range_within hr (by decide) (by rfl) (pa_cons (pv 0) (pa_cons (pe_c c_limits_of hr (by decide) (by rfl) (pa_cons (pv 0) (pa_cons (pv 1) pa_nil))) (pa_cons (pv 2) pa_nil)))))), ?_⟩
  refine ⟨.ref a, rfl, .ref a, rfl, .ref ra, rfl, a, ra, p, lr, nu, to, rfl, hp, F, hl, R, fun H1 r s1 nr hl1 => ?_⟩
  refine ⟨_, rfl, a, r, p, p.ns, _, _, n, rfl, hp.same s1, F, hl1, List.Perm.refl _, hn, fun H2 s2 no => q0 H2 (s1.trans s2) no, fun H2 r2 dx fs l h s2 nr2 hr2 rg ex => q1 H2 r2 dx fs l h (s1.trans s2) (s1.free nr2) hr2 rg ex⟩
/-! ### ranges_of -/
abbrev s_ranges_of : Stmt := topS 43
abbrev N_ranges_of : List Str := ["plant", "readings", "limits", "found", "name", "told"]
theorem sc_ranges_of : FnScope N_ranges_of ["plant", "readings"] (defScope s_ranges_of) := ⟨rfl, rfl, rfl, by decide +kernel, rfl, by decide +kernel, by decide +kernel⟩
def spRangesOf (C : Addr) : Sp := fun vs H Q _ => ∃ (a ra : Addr) (p : Pl) (lr : List Str) (nu to : Str → Int), vs = [.ref a, .ref ra] ∧ PlAt C H a p ∧ PlOk p ∧ LimAt H ra lr nu to ∧ RdgOk p lr nu to ∧
  (∀ H', Same H H' → (∀ g, ¬ Ok p (rLo p lr nu to) (rHi p lr nu to) g) → Q .non H') ∧ ∀ H' r l h, Same H H' → H r = none → LimAt H' r p.ns l h → H' r ≠ none → (∃ kl, H' r = some (.dK kl)) → (∃ f, Ok p (rLo p lr nu to) (rHi p lr nu to) f) → (∀ n ∈ p.ns, Ext p (rLo p lr nu to) (rHi p lr nu to) n (l n) (h n)) → Q (.ref r) H'
theorem ok_ranges_of (T : Txt K mg C CM CR) {f : Addr} {fd : FuncData} (D : DefIn K mg "ranges_of" s_ranges_of f fd) (c_limits_of : Cal P w K mg base 3 "limits_of" (spLimOf C)) (c_flows_within : Cal P w K mg base 7 "flows_within" (spWithin C)) (c_range_within : Cal P w K mg base 8 "range_within" (spRangeW C CR))
    (m_stream_names : Met P w K mg base 1 C "stream_names" (spSNames C)) : Cal P w K mg base 9 "ranges_of" (spRangesOf C) := by
  refine cal_of (N := N_ranges_of) D (ps := ["plant", "readings"]) (fun _ _ _ _ _ _ us hl => match us, hl with | [_, _], _ => rfl) sc_ranges_of (fun vs H Q E h => ?_) (fun cdv A outer s H vs Q E hr h => ?_)
  · obtain ⟨a, ra, p, lr, nu, to, rfl, _⟩ := h
    rfl
  have hu := hu_of hr
  obtain ⟨a, ra, p, lr, nu, to, rfl, hp, F, hl, R, q0, q1⟩ := h
  have n24 := F.nl
  refine ⟨_, (pss_cons (ps_set (i := 2) sc_ranges_of.nd rfl (by first | exact Or.inl rfl | exact Or.inr rfl) (pe_c c_limits_of hr (by decide) (by rfl) (pa_cons (pv 0) (pa_cons (pv 1) pa_nil))))
      (pss_cons (ps_if (pt_cmpR op_isN (pe_c c_flows_within hr (by decide) (by rfl) (pa_cons (pv 0) (pa_cons (pv 2) pa_nil))) pe_non (nomark _)) (pss_one (ps_ret pe_non)) pss_nil)
      (pss_cons (ps_set (i := 3) sc_ranges_of.nd rfl (by first | exact Or.inl rfl | exact Or.inr rfl) pe_dnewK)
      (pss_cons (ps_for PassesOwn.never rfl (pi_list (pe_m0 m_stream_names hr (by decide) (pv 0))) (pg_name (i := 4) sc_ranges_of.nd rfl (by first | exact Or.inl rfl | exact Or.inr rfl))
      (pss_cons (ps_set (i := 5) sc_ranges_of.nd rfl (by first | exact Or.inl rfl | exact Or.inr rfl) (pe_c c_range_within hr (by decide) (by rfl) (pa_cons (pv 0) (pa_cons (pv 2) (pa_cons (pv 4) pa_nil)))))
      (pss_one (ps_dput hu (pv 3) (pv 4) (pe_tup (pa_cons (pe_fld (pv 5) rfl) (pa_cons (pe_fld (pv 5) rfl) pa_nil))) rfl))))
      (pss_one (ps_ret (pv 3))))))), ?_⟩
  refine ⟨.ref a, rfl, .ref ra, rfl, a, ra, p, lr, nu, to, rfl, hp, F, hl, R, fun H1 li s1 nli hl1 => ?_⟩
  refine ⟨.ref a, rfl, .ref li, rfl, a, li, p, p.ns, _, _, rfl, hp.same s1, F, hl1, List.Perm.refl _, fun H2 s2 no => ⟨rfl, _, rfl, iteT (q0 H2 (s1.trans s2) no)⟩, fun H2 fa f0 s2 nfa hf0 ok => ⟨rfl, _, rfl, iteF ?_⟩⟩
  have s12 := s1.trans s2
  refine fun fo hfo => ?_
  have s3 := same_upd (o := .dK []) hfo
  have nfo : H fo = none := s12.free hfo
  have s03 := s12.trans s3
  have hp3 := hp.same s03
  have hl3 := (hl1.same s2).same s3
  obtain ⟨dx, k, s0, e3⟩ := plAt_ins hp3
  refine ⟨.ref a, rfl, a, dx, _, rfl, e3, no_sn _ _, a, p, rfl, hp3, F, fun H4 r s4 nr hr4 => ⟨r, rfl, ⟨_, SqL.of hr4⟩, ?_⟩⟩
  have hfo4 := s4 _ _ (upd_same : upd H2 fo (.dK []) fo = _)
  have hl4 := hl3.same s4
  have lifo : li ≠ fo := fun z => rd_ne (hl1.same s2).choose_spec.1 hfo z.symm
  refine for_list (K := K) (a := r) (xs := p.ns.map V.str) (fun i σ H' => ∃ y4 y5 l h, σ = [some (.ref a), some (.ref ra), some (.ref li), some (.ref fo), y4, y5] ∧ But fo H4 H' ∧ Same H H' ∧ DTab H' fo (p.ns.take i) (fun n => [.int (l n), .int (h n)]) ∧ ∀ n ∈ p.ns.take i, Ext p (rLo p lr nu to) (rHi p lr nu to) n (l n) (h n)) ⟨none, none, fun _ => 0, fun _ => 0, rfl, But.refl _ _, s03.trans s4, ⟨fun _ => 0, hfo4, fun m h => (nomatch h)⟩, fun m h => (nomatch h)⟩ (fun i σ H' _ z => ?_) ?_ ?_
  · obtain ⟨_, _, _, _, _, b, _⟩ := z
    exact SqL.of (b _ _ (fun z => by rw [z, hfo4] at hr4; cases hr4) hr4)
  · rintro i v σ H5 hv ⟨y4, y5, l, h, rfl, b5, s5, ⟨tf, h5, ht5⟩, ex5⟩
    obtain ⟨n, rfl, hn⟩ := get_str hv
    have mn := List.mem_of_getElem? hn
    have new := take_new F.nd hn
    have tl : (p.ns.take i).length < 1000 := by
      rw [List.length_take]
      omega
    have ek : p.ns.take (i + 1) = p.ns.take i ++ [n] := by rw [List.take_add_one, hn]; rfl
    refine ⟨.ref a, rfl, .ref li, rfl, _, rfl, a, li, p, p.ns, _, _, n, rfl, hp.same s5, F, hl4.but b5 hfo4 lifo, List.Perm.refl _, mn, fun H6 s6 no => absurd ok (no f0), fun H6 rg dxr fs l6 h6 s6 nrg hrg fg ex => ?_⟩
    refine ⟨_, rfl, rg, CR, dxr, fs, _, rfl, hrg, T.clR, T.nLo, fg.low, _, rfl, rg, CR, dxr, fs, _, rfl, hrg, T.clR, T.nHi, fg.high, by show 2 ≤ sizeLine; decide, fun q7 hq7 => ?_⟩
    have s7 := same_upd (o := .tup [.int l6, .int h6]) hq7
    have s57 := s6.trans s7
    have h6' := s6 _ _ h5
    refine ⟨.ref fo, rfl, _, rfl, fo, _, rfl, dputN (s7 _ _ h6') new tl, _, _, fset l n l6, fset h n h6, rfl, (b5.trans s57.but).trans (But.upd _ _), (s5.trans s57).mut nfo, ?_, fun m hm => ?_⟩
    · rw [ek]
      have e1 : [V.int l6, V.int h6] = [V.int (fset l n l6 n), V.int (fset h n h6 n)] := by rw [fset_same, fset_same]
      rw [e1]
      refine dtab_put (row := fun n_1 => [V.int (fset l n l6 n_1), V.int (fset h n h6 n_1)]) h6' (fun m hm => ?_) new hq7
      show H6 (tf m) = some (.tup [V.int (fset l n l6 m), V.int (fset h n h6 m)])
      have ne : m ≠ n := fun z => new (z ▸ hm)
      rw [fset_ne _ _ ne, fset_ne _ _ ne]
      exact s6 _ _ (ht5 m hm)
    · by_cases c : m = n
      · rw [c, fset_same, fset_same]
        exact ex
      · rw [ek] at hm
        rw [fset_ne _ _ c, fset_ne _ _ c]
        exact ex5 m ((List.mem_append.mp hm).elim id fun x => absurd (List.mem_singleton.mp x) c)
  · rintro σ H5 ⟨y4, y5, l, h, rfl, b5, s5, tab, ex5⟩
    rw [List.length_map, List.take_length] at tab ex5
    obtain ⟨tf, h5, ht5⟩ := id tab
    exact ⟨_, rfl, q1 H5 fo l h s5 nfo tab.lim (by rw [h5]; exact fun z => nomatch z) ⟨_, h5⟩ ⟨f0, ok⟩ ex5⟩
end
end Ms
set_option Elab.async false
set_option linter.all false
set_option maxRecDepth 100000
set_option maxHeartbeats 4000000
/-! The law's numbers, names and lines. -/
namespace Ms
open PySem PySem.Spec PyProof.Rows L2
section
variable {P : Program} {w : World} {K : PySem.W.Frag} {mg : Str → Option Value} {base : Heap} {C CM CR : Addr}
/-! ### _law_row -/
abbrev s__law_row : Stmt := topS 45
abbrev N__law_row : List Str := ["_law_cell", "_law_many", "_law_row_here", "_law_rest", "_law_state", "_law_k"]
theorem sc__law_row : FnScope N__law_row ["_law_cell", "_law_many"] (defScope s__law_row) := ⟨rfl, rfl, rfl, by decide +kernel, rfl, by decide +kernel, by decide +kernel⟩
def spRow : Sp := fun vs H Q _ => ∃ (c m : Int), vs = [.int c, .int m] ∧ 0 ≤ m ∧ m ≤ 200 ∧ ∀ H' r (xs : List Int), Same H H' → H r = none → H' r = some (.lst (xs.map V.int)) → xs.length = m.toNat → (∀ x ∈ xs, 0 ≤ x ∧ x < 1009) → Q (.ref r) H'
theorem ok_law_row (T : Txt K mg C CM CR) {f : Addr} {fd : FuncData} (D : DefIn K mg "_law_row" s__law_row f fd) : Cal P w K mg base 1 "_law_row" spRow := by
  refine cal_of (N := N__law_row) D (ps := ["_law_cell", "_law_many"]) (fun _ _ _ _ _ _ us hl => match us, hl with | [_, _], _ => rfl) sc__law_row (fun vs H Q E h => ?_) (fun cdv A outer s H vs Q E hr h => ?_)
  · obtain ⟨c, m, rfl, _⟩ := h
    rfl
  have hu := hu_of hr
  obtain ⟨c, m, rfl, m0, m1, q⟩ := h
  refine ⟨_, (pss_cons (ps_set (i := 2) sc__law_row.nd rfl (by first | exact Or.inl rfl | exact Or.inr rfl) (pe_lst pa_nil))
      (pss_cons (ps_set (i := 3) sc__law_row.nd rfl (by first | exact Or.inl rfl | exact Or.inr rfl) pe_int)
      (pss_cut (ps_if (pt_cmpR op_ge (pe_callB call_abs (by rfl) T.abs (by decide +kernel) (pa_cons (pv 0) pa_nil)) (pe_op op_pow pe_int pe_int) (nomark _)) (pss_one (ps_set (i := 3) sc__law_row.nd rfl (by first | exact Or.inl rfl | exact Or.inr rfl) (pe_callB call_abs (by rfl) T.abs (by decide +kernel) (pa_cons (pv 0) pa_nil)))) pss_nil)
      (pss_cons (ps_set (i := 4) sc__law_row.nd rfl (by first | exact Or.inl rfl | exact Or.inr rfl) (pe_op op_mod (pe_callTy call_int1 (by rfl) T.int (by decide +kernel) (pa_cons (pe_callB call_abs (by rfl) T.abs (by decide +kernel) (pa_cons (pv 0) pa_nil)) pa_nil)) pe_int))
      (pss_cons (ps_for PassesOwn.never rfl (pi_range1 (by rfl) T.range (pa_cons (pv 1) pa_nil)) (pg_name (i := 5) sc__law_row.nd rfl (by first | exact Or.inl rfl | exact Or.inr rfl))
      (pss_cons (ps_set (i := 4) sc__law_row.nd rfl (by first | exact Or.inl rfl | exact Or.inr rfl) (pe_op op_mod (pe_callTy call_int1 (by rfl) T.int (by decide +kernel) (pa_cons (pe_op op_add (pe_op op_mul (pe_op op_add (pv 4) pe_int) pe_int) (pe_op op_mul pe_int (pv 5))) pa_nil)) pe_int))
      (pss_one (ps_if (pt_cmpR op_gt (pv 3) pe_int (nomark _)) (pss_cons (ps_expr (pe_bm PySem.F.plainAttrs_list PySem.F.slot_list_append PySem.F.type_list_append mt_append (pv 2) (pa_cons (pe_op op_mod (pe_callTy call_int1 (by rfl) T.int (by decide +kernel) (pa_cons (pv 3) pa_nil)) pe_int) pa_nil)))
      (pss_one (ps_set (i := 3) sc__law_row.nd rfl (by first | exact Or.inl rfl | exact Or.inr rfl) (pe_op op_fdiv (pv 3) pe_int)))) (pss_one (ps_expr (pe_bm PySem.F.plainAttrs_list PySem.F.slot_list_append PySem.F.type_list_append mt_append (pv 2) (pa_cons (pe_op op_mod (pe_callTy call_int1 (by rfl) T.int (by decide +kernel) (pa_cons (pe_op op_fdiv (pv 4) pe_int) pa_nil)) pe_int) pa_nil))))))))
      (pss_one (ps_ret (pv 2)))))))), ?_⟩
  refine ⟨Nat.zero_le _, fun ro hro => ?_⟩
  have s1 := same_upd (o := .lst []) hro
  refine ⟨fun σ' H' => ∃ y3 : Int, σ' = [some (.int c), some (.int m), some (.ref ro), some (.int y3), none, none] ∧ Same H H' ∧ H' ro = some (.lst []), ?_, ?_⟩
  · refine ⟨_, rfl, _, rfl, 10, 18, rfl, rfl, ⟨by decide, by decide, by decide⟩, _, _, rfl, rfl, _, rfl, ite2 (fun _ => ?_) fun _ => ?_⟩
    · exact ⟨_, rfl, _, rfl, _, rfl, s1, upd_same⟩
    · exact ⟨_, rfl, s1, upd_same⟩
  rintro σ H1 ⟨y3, rfl, s1, h1⟩
  refine ⟨_, rfl, _, rfl, .inl ⟨_, rfl, _, _, rfl, rfl, (by show (0 : Int) < 2147483647; decide), ?_⟩⟩
  refine ⟨_, rfl, m, rfl, by omega, by omega, for_range (fun i σ H' => ∃ (y3 y4 : Int) (y5 : Option V) (xs : List Int), σ = [some (.int c), some (.int m), some (.ref ro), some (.int y3), some (.int y4), y5] ∧ Same H H' ∧ H' ro = some (.lst (xs.map V.int)) ∧ xs.length = i ∧ ∀ x ∈ xs, 0 ≤ x ∧ x < 1009) ⟨_, _, _, [], rfl, s1, h1, rfl, fun x h => (nomatch h)⟩ ?_ ?_⟩
  · rintro i σ H2 hi ⟨y3, y4, y5, xs, rfl, s2, h2, lx, bx⟩
    refine ⟨_, rfl, _, _, rfl, rfl, _, _, rfl, rfl, .inr (by decide), _, rfl, _, _, rfl, rfl, .inl (by decide), _, _, rfl, rfl, .inl ⟨_, rfl, _, _, rfl, rfl, (by show (0 : Int) < 2147483647; decide), ?_⟩⟩
    have put : ∀ z : Int, 0 ≤ z % 1009 ∧ z % 1009 < 1009 := fun z => ⟨by omega, by omega⟩
    have grow : ∀ z : Int, (∀ x ∈ xs ++ [z % 1009], 0 ≤ x ∧ x < 1009) := fun z x hx => (List.mem_append.mp hx).elim (bx x) fun e => by rw [List.mem_singleton.mp e]; exact put z
    refine ⟨_, rfl, _, _, rfl, rfl, _, rfl, ite2 (fun _ => ?_) fun _ => ?_⟩
    · refine ⟨.ref ro, rfl, .inl ⟨rfl, _, SqL.of h2⟩, _, rfl, .inl ⟨_, rfl, _, _, rfl, rfl, (by show (0 : Int) < 1009; decide), ro, _, _, rfl, rfl, h2, sz_lt (by rw [List.length_map]; omega), ?_⟩⟩
      refine ⟨_, rfl, _, _, rfl, rfl, ⟨by decide, by decide⟩, _, _, _, _, rfl, s2.mut hro, ?_, ?_, grow y3⟩
      · rw [upd_same, List.map_append]
        rfl
      · rw [List.length_append, lx]
        rfl
    · refine ⟨.ref ro, rfl, .inl ⟨rfl, _, SqL.of h2⟩, _, rfl, _, _, rfl, rfl, ⟨by decide, by decide⟩, .inl ⟨_, rfl, _, _, rfl, rfl, (by show (0 : Int) < 1009; decide), ro, _, _, rfl, rfl, h2, sz_lt (by rw [List.length_map]; omega), ?_⟩⟩
      refine ⟨_, _, _, _, rfl, s2.mut hro, ?_, ?_, grow (((y4 + 1) * 48271 + 69621 * (0 + (i : Int))) % 2147483647 / 2048)⟩
      · rw [upd_same, List.map_append]
        rfl
      · rw [List.length_append, lx]
        rfl
  · rintro σ H2 ⟨y3, y4, y5, xs, rfl, s2, h2, lx, bx⟩
    exact ⟨_, rfl, q H2 ro xs s2 hro h2 lx bx⟩
/-! ### _law_numbers -/
abbrev s__law_numbers : Stmt := topS 46
abbrev N__law_numbers : List Str := ["_law_script", "_law_many", "_law_cells", "_law_each", "_law_numbers_here", "_law_cell", "_law_number"]
theorem sc__law_numbers : FnScope N__law_numbers ["_law_script", "_law_many"] (defScope s__law_numbers) := ⟨rfl, rfl, rfl, by decide +kernel, rfl, by decide +kernel, by decide +kernel⟩
/-- the numbers that a law draws from -/
def NumAt (H : Hp) (a : Addr) : Prop := ∃ xs : List Int, H a = some (.lst (xs.map V.int)) ∧ xs.length = 110 ∧ ∀ x ∈ xs, 0 ≤ x ∧ x < 1009
theorem NumAt.same {H H' : Hp} {a : Addr} (h : NumAt H a) (e : Same H H') : NumAt H' a := by
  obtain ⟨xs, x, y⟩ := h
  exact ⟨xs, e _ _ x, y⟩
theorem NumAt.get {H : Hp} {a : Addr} (h : NumAt H a) {i : Int} (h0 : 0 ≤ i) (h1 : i < 110) : ∃ (ys : List V) (x : Int), H a = some (.lst ys) ∧ atI ys i = some (.int x) ∧ 0 ≤ x ∧ x < 1009 := by
  obtain ⟨xs, e, l, b⟩ := h
  obtain ⟨j, rfl⟩ := Int.eq_ofNat_of_zero_le h0
  have lj : j < xs.length := by omega
  refine ⟨_, xs[j], e, atI_nat (by rw [List.getElem?_map, List.getElem?_eq_getElem lj]; rfl), b _ (List.getElem_mem lj)⟩
theorem cut_to (xs : List V) (k : Nat) : cutV xs none (some (k : Int)) = xs.take k := by
  unfold cutV
  rw [HT.sIx_none, HT.sIx_nat, List.drop_zero, Nat.sub_zero]
  rcases Nat.le_total k xs.length with h | h
  · rw [Nat.min_eq_left h]
  · rw [Nat.min_eq_right h, List.take_of_length_le (Nat.le_refl _), List.take_of_length_le h]
def spNumbers : Sp := fun vs H Q _ => ∃ (sa : Addr) (ns : List Int), vs = [.ref sa, .int 110] ∧ SqL K H sa (ns.map V.int) ∧ ∀ H' r, Same H H' → H r = none → NumAt H' r → Q (.ref r) H'
theorem ok_law_numbers (T : Txt K mg C CM CR) {f : Addr} {fd : FuncData} (D : DefIn K mg "_law_numbers" s__law_numbers f fd) (c__law_row : Cal P w K mg base 1 "_law_row" spRow) : Cal P w K mg base 2 "_law_numbers" (spNumbers (K := K)) := by
  refine cal_of (N := N__law_numbers) D (ps := ["_law_script", "_law_many"]) (fun _ _ _ _ _ _ us hl => match us, hl with | [_, _], _ => rfl) sc__law_numbers (fun vs H Q E h => ?_) (fun cdv A outer s H vs Q E hr h => ?_)
  · obtain ⟨sa, ns, rfl, _⟩ := h
    rfl
  have hu := hu_of hr
  obtain ⟨sa, ns, rfl, hs, q⟩ := h
  refine ⟨_, (pss_cons (ps_set (i := 2) sc__law_numbers.nd rfl (by first | exact Or.inl rfl | exact Or.inr rfl) (pe_slice sl_list (pv 0) po_none (po_some pe_int)))
      (pss_cut (ps_set (i := 3) sc__law_numbers.nd rfl (by first | exact Or.inl rfl | exact Or.inr rfl) (pe_op op_add pe_int (pe_op op_fdiv (pv 1) (pe_callB (call_max2 rfl) (by rfl) T.max (by decide +kernel) (pa_cons pe_int (pa_cons (pe_callB call_len_seq (by rfl) T.len (by decide +kernel) (pa_cons (pv 2) pa_nil)) pa_nil))))))
      (pss_cons (ps_set (i := 4) sc__law_numbers.nd rfl (by first | exact Or.inl rfl | exact Or.inr rfl) (pe_lst pa_nil))
      (pss_cons (ps_for PassesOwn.never rfl (pi_list (pv 2)) (pg_name (i := 5) sc__law_numbers.nd rfl (by first | exact Or.inl rfl | exact Or.inr rfl))
      (pss_one (ps_for PassesOwn.never rfl (pi_list (pe_c c__law_row hr (by decide) (by rfl) (pa_cons (pv 5) (pa_cons (pv 3) pa_nil)))) (pg_name (i := 6) sc__law_numbers.nd rfl (by first | exact Or.inl rfl | exact Or.inr rfl))
      (pss_one (ps_expr (pe_bm PySem.F.plainAttrs_list PySem.F.slot_list_append PySem.F.type_list_append mt_append (pv 4) (pa_cons (pv 6) pa_nil)))))))
      (pss_cons (ps_while PassesOwn.never (pt_cmpR op_lt (pe_callB call_len_seq (by rfl) T.len (by decide +kernel) (pa_cons (pv 4) pa_nil)) (pv 1) (nomark _))
      (pss_one (ps_expr (pe_bm PySem.F.plainAttrs_list PySem.F.slot_list_append PySem.F.type_list_append mt_append (pv 4) (pa_cons pe_int pa_nil)))))
      (pss_one (ps_ret (pe_slice sl_list (pv 4) po_none (po_some (pv 1)))))))))), ?_⟩
  refine ⟨.ref sa, rfl, 63, rfl, sa, _, rfl, hs, fun ca hca => ?_⟩
  have ec : cutV (ns.map V.int) none (some 63) = (ns.take 63).map V.int := by
    rw [List.map_take]
    exact cut_to _ 63
  rw [ec]
  have cl : (ns.take 63).length ≤ 63 := List.length_take_le ..
  generalize ns.take 63 = cs at cl
  have s1 := same_upd (o := .lst (cs.map V.int)) hca
  have hca1 : upd H ca (.lst (cs.map V.int)) ca = some (.lst (cs.map V.int)) := upd_same
  generalize upd H ca (.lst (cs.map V.int)) = H1 at s1 hca1 ⊢
  refine ⟨fun σ' H' => ∃ each : Int, σ' = [some (.ref sa), some (.int 110), some (.ref ca), some (.int each), none, none, none] ∧ H1 = H' ∧ 0 ≤ each ∧ each ≤ 111, ?_, ?_⟩
  · have d1 : (1 : Int) ≤ (if (cs.length : Int) > 1 then (cs.length : Int) else 1) := by split <;> omega
    have d2 : (if (cs.length : Int) > 1 then (cs.length : Int) else 1) < 1073741824 := by split <;> omega
    refine ⟨_, rfl, .ref ca, rfl, ca, _, rfl, .inl (SqL.of hca1), 1, _, rfl, _, _, rfl, rfl, ?_⟩
    rw [List.length_map]
    refine ⟨⟨by omega, d2⟩, _, _, rfl, rfl, _, rfl, rfl, ?_⟩
    have a1 : 0 ≤ (110 : Int) / (if (cs.length : Int) > 1 then (cs.length : Int) else 1) := Int.ediv_nonneg (by omega) (by omega)
    have a2 : (110 : Int) / (if (cs.length : Int) > 1 then (cs.length : Int) else 1) ≤ 110 := Int.ediv_le_self _ (by omega)
    exact ⟨by omega, by omega⟩
  rintro σ H1 ⟨each, rfl, rfl, eb⟩
  refine ⟨Nat.zero_le _, fun na hna => ?_⟩
  have s2 := s1.trans (same_upd (o := .lst []) hna)
  have nna : H na = none := s1.free hna
  have hca2 := same_upd (o := .lst []) hna _ _ hca1
  have cana : ca ≠ na := ne_of_none hca1 hna
  let Iv (k : Nat) (H' : Hp) : Prop := Same H H' ∧ H' ca = some (.lst (cs.map V.int)) ∧ ∃ xs : List Int, H' na = some (.lst (xs.map V.int)) ∧ xs.length ≤ k ∧ ∀ x ∈ xs, 0 ≤ x ∧ x < 1009
  refine ⟨.ref ca, rfl, ca, rfl, ⟨_, SqL.of hca2⟩, for_list (K := K) (a := ca) (xs := cs.map V.int) (fun i σ H' => ∃ y5 y6, σ = [some (.ref sa), some (.int 110), some (.ref ca), some (.int each), some (.ref na), y5, y6] ∧ Iv (111 * i) H') ⟨none, none, rfl, s2, hca2, [], upd_same, Nat.zero_le _, fun x h => (nomatch h)⟩ (fun i σ H' _ z => ?_) ?_ ?_⟩
  · obtain ⟨_, _, _, _, h, _⟩ := z
    exact SqL.of h
  · rintro i v σ H3 hv ⟨y5, y6, rfl, s3, hc3, xs, hx3, lx, bx⟩
    obtain ⟨c, rfl, hc⟩ := get_map hv
    have il : i < cs.length := (List.getElem?_eq_some_iff.mp hc).1
    refine ⟨_, rfl, _, rfl, c, each, rfl, eb.1, by omega, fun H4 r zs s4 nr hr4 lz bz => ⟨r, rfl, ⟨_, SqL.of hr4⟩, ?_⟩⟩
    have rna : r ≠ na := (ne_of_none hx3 nr).symm
    refine for_list (K := K) (a := r) (xs := zs.map V.int) (fun j σ H' => ∃ y6, σ = [some (.ref sa), some (.int 110), some (.ref ca), some (.int each), some (.ref na), some (.int c), y6] ∧ Iv (111 * i + j) H' ∧ H' r = some (.lst (zs.map V.int))) ⟨_, rfl, ⟨s3.trans s4, s4 _ _ hc3, xs, s4 _ _ hx3, lx, bx⟩, hr4⟩ (fun j σ H' _ z => ?_) ?_ ?_
    · obtain ⟨_, _, _, h⟩ := z
      exact SqL.of h
    · rintro j v σ H5 hv5 ⟨y6, rfl, ⟨s5, hc5, xs, hx5, lx, bx⟩, hr5⟩
      obtain ⟨z, rfl, hz⟩ := get_map hv5
      have jl : j < zs.length := (List.getElem?_eq_some_iff.mp hz).1
      refine ⟨.ref na, rfl, .inl ⟨rfl, _, SqL.of hx5⟩, _, rfl, na, _, _, rfl, rfl, hx5, sz_lt (by rw [List.length_map]; omega), ?_⟩
      refine ⟨_, rfl, ⟨s5.mut nna, by rw [upd_ne cana]; exact hc5, xs ++ [z], ?_, ?_, fun x hx => ?_⟩, by rw [upd_ne rna]; exact hr5⟩
      · rw [upd_same, List.map_append]
        rfl
      · rw [List.length_append]
        show xs.length + 1 ≤ _
        omega
      · exact (List.mem_append.mp hx).elim (bx x) fun e => by rw [List.mem_singleton.mp e]; exact bz z (List.mem_of_getElem? hz)
    · rintro σ H5 ⟨y6, rfl, ⟨s5, hc5, xs, hx5, lx, bx⟩, hr5⟩
      refine ⟨_, _, rfl, s5, hc5, xs, hx5, ?_, bx⟩
      rw [List.length_map] at lx
      omega
  · rintro σ H3 ⟨y5, y6, rfl, s3, hc3, xs, hx3, lx, bx⟩
    rw [List.length_map] at lx
    refine ⟨fun μ σ H' => σ = [some (.ref sa), some (.int 110), some (.ref ca), some (.int each), some (.ref na), y5, y6] ∧ Same H H' ∧ ∃ xs : List Int, H' na = some (.lst (xs.map V.int)) ∧ xs.length ≤ 7000 ∧ (∀ x ∈ xs, 0 ≤ x ∧ x < 1009) ∧ μ = 110 - xs.length, ⟨_, rfl, s3, xs, hx3, by omega, bx, rfl⟩, ?_⟩
    rintro μ σ H4 ⟨rfl, s4, xs, hx4, lx, bx, rfl⟩
    refine ⟨.ref na, rfl, na, _, rfl, .inl (SqL.of hx4), _, rfl, _, _, rfl, rfl, _, rfl, ?_⟩
    rw [List.length_map]
    by_cases c : xs.length < 110
    · refine iteD (by omega) ⟨fun σ' H' => ∃ μ', μ' < 110 - xs.length ∧ (σ' = [some (.ref sa), some (.int 110), some (.ref ca), some (.int each), some (.ref na), y5, y6] ∧ Same H H' ∧ ∃ xs : List Int, H' na = some (.lst (xs.map V.int)) ∧ xs.length ≤ 7000 ∧ (∀ x ∈ xs, 0 ≤ x ∧ x < 1009) ∧ μ' = 110 - xs.length), fun σ' H' h => h, ?_⟩
      refine ⟨.ref na, rfl, .inl ⟨rfl, _, SqL.of hx4⟩, na, _, _, rfl, rfl, hx4, sz_lt (by rw [List.length_map]; omega), ?_⟩
      have ll : (xs ++ [(0 : Int)]).length = xs.length + 1 := by rw [List.length_append]; rfl
      refine ⟨_, ?_, rfl, s4.mut nna, xs ++ [0], ?_, by omega, fun x hx => ?_, rfl⟩
      · omega
      · rw [upd_same, List.map_append]
        rfl
      · exact (List.mem_append.mp hx).elim (bx x) fun e => by rw [List.mem_singleton.mp e]; exact ⟨by omega, by omega⟩
    · refine iteDF (by omega) ?_
      refine ⟨.ref na, rfl, _, rfl, 110, rfl, na, _, rfl, SqL.of hx4, fun r hr5 => ?_⟩
      refine q _ r (s4.trans (same_upd hr5)) (s4.free hr5) ⟨xs.take 110, ?_, ?_, fun x hx => bx x (List.mem_of_mem_take hx)⟩
      · rw [upd_same, List.map_take]
        exact congrArg (fun z => some (HO.lst z)) (cut_to _ 110)
      · rw [List.length_take]
        omega
end
end Ms
set_option Elab.async false
set_option linter.all false
set_option maxRecDepth 100000
set_option maxHeartbeats 4000000
/-! The law's names and lines. -/
namespace Ms
open PySem PySem.Spec PyProof.Rows L2
/-! ### letters -/
def lett (i : Int) : Nat := (signs.cps.toList[(i % 36).toNat]?).getD 0
def one (i : Int) : Str := ⟨#[lett i]⟩
theorem signs_len : signs.cps.toList.length = 36 := by decide +kernel
theorem signs_nodup : signs.cps.toList.Nodup := by decide +kernel
theorem lett_get (i : Int) : signs.cps.toList[(i % 36).toNat]? = some (lett i) := by
  have h : (i % 36).toNat < signs.cps.toList.length := by
    rw [signs_len]
    omega
  unfold lett
  rw [List.getElem?_eq_getElem h]
  rfl
theorem lett_at (i : Int) : atI signs.cps.toList (i % 36) = some (lett i) := by
  have e : i % 36 = (((i % 36).toNat : Nat) : Int) := by omega
  have := lett_get i
  rw [e]
  exact atI_nat this
theorem lett_mem (i : Int) : lett i ∈ signs.cps.toList := List.mem_of_getElem? (lett_get i)
theorem lett_inj {i j : Int} (h : lett i = lett j) : i % 36 = j % 36 := by
  have a := lett_get i
  have b := lett_get j
  rw [← h] at b
  have := nodup_ix signs_nodup a b
  omega
theorem joinL_nil : ∀ l : List (List Nat), TL.joinL [] l = l.flatten
  | [] => rfl
  | [p] => by
    show p = [p].flatten
    simp
  | p :: q :: r => by
    show p ++ ([] ++ TL.joinL [] (q :: r)) = p ++ (q :: r).flatten
    rw [joinL_nil (q :: r), List.nil_append]
theorem tl_one (i : Int) : TL.tl (one i) = [lett i] := rfl
theorem ahead_ok (is : List Int) : (Txt.join Str.empty (is.map one)).cps.toList = is.map lett := by
  rw [TL.join_eq]
  refine (TL.tl_join _ _).trans ?_
  show TL.joinL [] _ = _
  rw [joinL_nil, List.map_map]
  induction is with
  | nil => rfl
  | cons i is ih =>
    rw [List.map_cons, List.flatten_cons, List.map_cons, ih]
    rfl
/-- a name of the law: what is ahead, and a letter -/
def nmAt (z : Str) (i : Int) : Str := z ++ one i
theorem nmAt_inj {z : Str} {i j : Int} (h : nmAt z i = nmAt z j) : i % 36 = j % 36 := by
  have e := congrArg TL.tl h
  unfold nmAt at e
  rw [TL.tl_append, TL.tl_append, tl_one, tl_one] at e
  have := List.append_cancel_left e
  exact lett_inj (List.cons.inj this).1
theorem nmAt_good {is : List Int} (h : is.length ≤ 3) (i : Int) : Good (nmAt (Txt.join Str.empty (is.map one)) i) := by
  have e : TL.tl (nmAt (Txt.join Str.empty (is.map one)) i) = is.map lett ++ [lett i] := by
    unfold nmAt
    rw [TL.tl_append, tl_one]
    exact congrArg (· ++ [lett i]) (ahead_ok is)
  have l : (nmAt (Txt.join Str.empty (is.map one)) i).length = is.length + 1 := by
    rw [TL.len_tl, e, List.length_append, List.length_map]
    rfl
  refine ⟨by omega, by omega, fun c hc => ?_⟩
  have hc : c ∈ is.map lett ++ [lett i] := by
    rw [← e]
    exact hc
  rcases List.mem_append.mp hc with m | m
  · obtain ⟨j, _, rfl⟩ := List.mem_map.mp m
    exact lett_mem j
  · rw [List.mem_singleton.mp m]
    exact lett_mem i
theorem sum_one (is : List Int) : ((is.map one).map (·.length)).sum = is.length := by
  induction is with
  | nil => rfl
  | cons i is ih =>
    rw [List.map_cons, List.map_cons, List.sum_cons, ih, List.length_cons]
    show 1 + is.length = _
    omega
section
variable {P : Program} {w : World} {K : PySem.W.Frag} {mg : Str → Option Value} {base : Heap} {C CM CR : Addr}
/-! ### _law_names -/
abbrev s__law_names : Stmt := topS 47
abbrev N__law_names : List Str := ["_law_number", "_law_many", "_law_letters", "_law_ahead", "_law_k"]
theorem sc__law_names : FnScope N__law_names ["_law_number", "_law_many"] (defScope s__law_names) := ⟨rfl, rfl, rfl, by decide +kernel, rfl, by decide +kernel, by decide +kernel⟩
def spLNames : Sp := fun vs H Q _ => ∃ n m : Int, vs = [.int n, .int m] ∧ 0 ≤ n ∧ n < 1009 ∧ 0 ≤ m ∧ m ≤ 7 ∧ ∀ H' r (xs : List Str), Same H H' → H r = none → H' r = some (.lst (xs.map V.str)) → xs.length = m.toNat → xs.Nodup → (∀ x ∈ xs, Good x) → Q (.ref r) H'
theorem ok_law_names (T : Txt K mg C CM CR) {f : Addr} {fd : FuncData} (D : DefIn K mg "_law_names" s__law_names f fd) : Cal P w K mg base 1 "_law_names" spLNames := by
  refine cal_of (N := N__law_names) D (ps := ["_law_number", "_law_many"]) (fun _ _ _ _ _ _ us hl => match us, hl with | [_, _], _ => rfl) sc__law_names (fun vs H Q E h => ?_) (fun cdv A outer s H vs Q E hr h => ?_)
  · obtain ⟨n, m, rfl, _⟩ := h
    rfl
  have hu := hu_of hr
  obtain ⟨n, m, rfl, n0, n1, m0, m1, q⟩ := h
  refine ⟨_, (pss_cons (ps_set (i := 2) sc__law_names.nd rfl (by first | exact Or.inl rfl | exact Or.inr rfl) pe_str)
      (pss_cons (ps_set (i := 3) sc__law_names.nd rfl (by first | exact Or.inl rfl | exact Or.inr rfl) (pe_join pe_str (pe_lc (own := [("_law_k", 4)]) (by rfl) sc__law_names.nd (pi_range1 (by rfl) T.range (pa_cons (pe_op op_mod (pe_callTy call_int1 (by rfl) T.int (by decide +kernel) (pa_cons (pe_op op_fdiv (pv 0) pe_int) pa_nil)) pe_int) pa_nil)) (blkOk_by (own := [("_law_k", 4)]) (N := N__law_names) (sc := defScope s__law_names) (by decide +kernel)) (fun _ _ _ _ _ => (pg_name (i := 4) sc__law_names.nd rfl (by first | exact Or.inl rfl | exact Or.inr rfl))) (fun _ _ _ _ _ => pts_nil) (fun _ _ _ _ _ => (pe_ix ix_str (pv 2) (pe_op op_mod (pe_callTy call_int1 (by rfl) T.int (by decide +kernel) (pa_cons (pe_op op_add (pv 0) (pe_op op_mul (pe_op op_mul pe_int (pv 4)) (pv 4))) pa_nil)) pe_int) (fun _ _ => rfl))))))
      (pss_one (ps_ret (pe_lc (own := [("_law_k", 4)]) (by rfl) sc__law_names.nd (pi_range1 (by rfl) T.range (pa_cons (pv 1) pa_nil)) (blkOk_by (own := [("_law_k", 4)]) (N := N__law_names) (sc := defScope s__law_names) (by decide +kernel)) (fun _ _ _ _ _ => (pg_name (i := 4) sc__law_names.nd rfl (by first | exact Or.inl rfl | exact Or.inr rfl))) (fun _ _ _ _ _ => pts_nil) (fun _ _ _ _ _ => (pe_op op_add_str (pv 3) (pe_ix ix_str (pv 2) (pe_op op_mod (pe_callTy call_int1 (by rfl) T.int (by decide +kernel) (pa_cons (pe_op op_add (pv 0) (pe_op op_mul pe_int (pv 4))) pa_nil)) pe_int) (fun _ _ => rfl))))))))), ?_⟩
  have j0 : 0 ≤ n / 36 % 4 ∧ n / 36 % 4 < 4 := ⟨by omega, by omega⟩
  refine ⟨⟨_, rfl⟩, _, rfl, _, _, rfl, rfl, ⟨by decide, by decide⟩, .inl ⟨_, rfl, _, _, rfl, rfl, (by show (0 : Int) < 4; decide), n / 36 % 4, rfl, by omega, by omega, fun D hD => ?_⟩⟩
  let ix : Nat → Int := fun k => n + 11 * (0 + (k : Int)) * (0 + (k : Int))
  refine lc_it walk_range (LcP H D fun i acc _ => acc = ((List.range i).map ix).map fun i => V.str (one i)) (LcP.start hD rfl) (fun _ _ _ _ => trivial) ?_ ?_
  · rintro i v H2 H3 hi ⟨s2, acc, hc, rfl⟩ ⟨rfl, rfl⟩
    refine ⟨rfl, _, rfl, _, rfl, _, rfl, _, _, rfl, rfl, .inl (by decide), _, rfl, _, _, rfl, rfl, .inr ⟨by omega, by omega⟩, _, _, rfl, rfl, .inl ⟨_, rfl, _, _, rfl, rfl, (by show (0 : Int) < 36; decide), signs, _, lett (ix i), rfl, rfl, by decide, lett_at _, LcP.put hD s2 hc (sz_lt ?_) ?_⟩⟩
    · rw [List.length_map, List.length_map, List.length_range]
      omega
    · show _ = ((List.range (i + 1)).map ix).map _
      rw [List.range_succ, List.map_append, List.map_append]
      rfl
  rintro H2 ⟨s2, acc, hc, rfl⟩
  have l3 : ((List.range (n / 36 % 4).toNat).map ix).length ≤ 3 := by
    rw [List.length_map, List.length_range]
    omega
  generalize (List.range (n / 36 % 4).toNat).map ix = is at hc l3
  refine ⟨_, D, is.map one, rfl, rfl, .inl (SqL.of (by rw [List.map_map]; exact hc)), ?_, ?_⟩
  · rw [sum_one, List.length_map]
    show is.length + is.length * 0 ≤ _
    omega
  let z : Str := Txt.join Str.empty (is.map one)
  have zl : z.length ≤ 3 := by
    rw [TL.len_tl]
    show (Txt.join Str.empty (is.map one)).cps.toList.length ≤ 3
    rw [ahead_ok, List.length_map]
    exact l3
  refine ⟨_, rfl, m, rfl, by omega, by omega, fun D2 hD2 => ?_⟩
  let nm : Nat → Str := fun k => nmAt z (n + 5 * (0 + (k : Int)))
  refine lc_it walk_range (LcP H2 D2 fun i acc _ => acc = ((List.range i).map nm).map V.str) (LcP.start hD2 rfl) (fun _ _ _ _ => trivial) ?_ ?_
  · rintro i v H3 H4 hi ⟨s3, acc, hc3, rfl⟩ ⟨rfl, rfl⟩
    refine ⟨rfl, _, rfl, _, rfl, _, rfl, _, rfl, _, _, rfl, rfl, .inl (by decide), _, _, rfl, rfl, .inl ⟨_, rfl, _, _, rfl, rfl, (by show (0 : Int) < 36; decide), signs, _, lett (n + 5 * (0 + (i : Int))), rfl, rfl, by decide, lett_at _, ?_⟩⟩
    refine ⟨z, _, rfl, rfl, ?_, LcP.put hD2 s3 hc3 (sz_lt ?_) ?_⟩
    · refine Nat.le_trans (Nat.add_le_add_right zl _) ?_
      show 3 + 1 ≤ sizeLine
      decide
    · rw [List.length_map, List.length_map, List.length_range]
      omega
    · show _ = ((List.range (i + 1)).map nm).map _
      rw [List.range_succ, List.map_append, List.map_append]
      rfl
  rintro H3 ⟨s3, acc, hc3, rfl⟩
  refine q H3 D2 ((List.range m.toNat).map nm) (s2.trans s3) (s2.free hD2) hc3 (by rw [List.length_map, List.length_range]) ?_ fun x hx => ?_
  · refine List.Pairwise.map _ (R := fun a b : Nat => a ≠ b ∧ a < m.toNat ∧ b < m.toNat) (fun a b ⟨ne, la, lb⟩ e => ne ?_) ?_
    · have := nmAt_inj e
      omega
    · refine List.Pairwise.imp_of_mem (fun {a b} ha hb ne => ⟨ne, List.mem_range.mp ha, List.mem_range.mp hb⟩) (List.nodup_range (n := m.toNat))
  · obtain ⟨k, _, rfl⟩ := List.mem_map.mp hx
    exact nmAt_good l3 _
/-! ### tables in lists -/
def rset (row : Str → List V) (n : Str) (r : List V) : Str → List V := fun m => if m = n then r else row m
def LTab (H : Hp) (D : Addr) (done : List Str) (row : Str → List V) : Prop := ∃ t : Str → Addr, H D = some (.lst (done.map fun m => V.ref (t m))) ∧ ∀ m ∈ done, H (t m) = some (.tup (row m))
theorem LTab.same {H H' : Hp} {D : Addr} {done : List Str} {row : Str → List V} (h : LTab H D done row) (e : Same H H') : LTab H' D done row := by
  obtain ⟨t, a, b⟩ := h
  exact ⟨t, e _ _ a, fun m hm => e _ _ (b m hm)⟩
theorem ltab_put {H : Hp} {D q : Addr} {done : List Str} {row : Str → List V} {t : Str → Addr} {n : Str} {r : List V} (h1 : H D = some (.lst (done.map fun m => V.ref (t m)))) (h2 : ∀ m ∈ done, H (t m) = some (.tup (row m))) (hn : n ∉ done) (hq : H q = none) :
    LTab (upd (upd H q (.tup r)) D (.lst (done.map (fun m => V.ref (t m)) ++ [V.ref q]))) D (done ++ [n]) (rset row n r) := by
  have h2' : ∀ m ∈ done, H (t m) = some (.tup (rset row n r m)) := fun m hm => by
    have ne : ¬ m = n := fun e => hn (by rw [← e]; exact hm)
    unfold rset
    rw [if_neg ne]
    exact h2 m hm
  have er : r = rset row n r n := by
    unfold rset
    rw [if_pos rfl]
  obtain ⟨t', a, b⟩ := tab_grow (row := rset row n r) (.lst (done.map (fun m => V.ref (t m)) ++ [V.ref q])) ⟨_, h1⟩ h2' hn hq
  rw [← er] at b
  exact ⟨t', by rw [upd_same, a], b⟩
/-- rows' parts by functions of names -/
def vS (l : List V) (i : Nat) : Str := match l[i]? with | some (.str x) => x | _ => Str.empty
def vI (l : List V) (i : Nat) : Int := match l[i]? with | some (.int x) => x | _ => 0
theorem rset_same (row : Str → List V) (n : Str) (r : List V) : rset row n r n = r := by
  unfold rset
  rw [if_pos rfl]
theorem rset_ne (row : Str → List V) {n m : Str} (r : List V) (h : m ≠ n) : rset row n r m = row m := by
  unfold rset
  rw [if_neg h]
theorem rset_all {A : Str → List V → Prop} {row : Str → List V} {done : List Str} {n : Str} {r : List V} (h : ∀ m ∈ done, A m (row m)) (hr : A n r) : ∀ m ∈ done ++ [n], A m (rset row n r m) := fun m hm => by
  by_cases c : m = n
  · subst c
    rw [rset_same]
    exact hr
  · rw [rset_ne row r c]
    exact h m ((List.mem_append.mp hm).elim id fun x => absurd (List.mem_singleton.mp x) c)
theorem rows_lin {done : List Str} {row : Str → List V} {ks : List Str} (h : ∀ n ∈ done, ∃ x y, row n = [.str n, .str x, .str y] ∧ x ∈ ks ∧ y ∈ ks) : ∃ tl hd : Str → Str, (∀ n ∈ done, row n = [.str n, .str (tl n), .str (hd n)]) ∧ ∀ n ∈ done, tl n ∈ ks ∧ hd n ∈ ks := by
  refine ⟨fun n => vS (row n) 1, fun n => vS (row n) 2, fun n hn => ?_, fun n hn => ?_⟩
  · obtain ⟨x, y, e, _⟩ := h n hn
    show row n = [.str n, .str (vS (row n) 1), .str (vS (row n) 2)]
    rw [e]
    rfl
  · obtain ⟨x, y, e, hx, hy⟩ := h n hn
    show vS (row n) 1 ∈ ks ∧ vS (row n) 2 ∈ ks
    rw [e]
    exact ⟨hx, hy⟩
/-! ### _law_lines -/
abbrev s__law_lines : Stmt := topS 48
abbrev N__law_lines : List Str := ["_law_numbers_here", "_law_at", "_law_knots", "_law_many", "_law_names_here", "_law_lines_here", "_law_k", "_law_ends"]
theorem sc__law_lines : FnScope N__law_lines ["_law_numbers_here", "_law_at", "_law_knots", "_law_many"] (defScope s__law_lines) := ⟨rfl, rfl, rfl, by decide +kernel, rfl, by decide +kernel, by decide +kernel⟩
theorem str_at {xs : List Str} {i : Int} (h0 : 0 ≤ i) (h1 : i < xs.length) : ∃ x, atI (xs.map V.str) i = some (.str x) ∧ x ∈ xs := by
  obtain ⟨j, rfl⟩ := Int.eq_ofNat_of_zero_le h0
  have lj : j < xs.length := by omega
  exact ⟨xs[j], atI_nat (by rw [List.getElem?_map, List.getElem?_eq_getElem lj]; rfl), List.getElem_mem lj⟩
def spLLines : Sp := fun vs H Q _ => ∃ (na ka : Addr) (at_ m : Int) (ks : List Str), vs = [.ref na, .int at_, .ref ka, .int m] ∧ NumAt H na ∧ H ka = some (.lst (ks.map V.str)) ∧ ks ≠ [] ∧ ks.length ≤ 24 ∧ 0 ≤ at_ ∧ at_ < 100 ∧ 0 ≤ m ∧ m ≤ 6 ∧
  ∀ H' r ns tl hd, Same H H' → H r = none → LinAt H' r ns tl hd → ns.Nodup → (∀ n ∈ ns, Good n ∧ tl n ∈ ks ∧ hd n ∈ ks) → ns.length ≤ 6 → Q (.ref r) H'
theorem ok_law_lines (T : Txt K mg C CM CR) {f : Addr} {fd : FuncData} (D : DefIn K mg "_law_lines" s__law_lines f fd) (c__law_names : Cal P w K mg base 1 "_law_names" spLNames) : Cal P w K mg base 2 "_law_lines" spLLines := by
  refine cal_of (N := N__law_lines) D (ps := ["_law_numbers_here", "_law_at", "_law_knots", "_law_many"]) (fun _ _ _ _ _ _ us hl => match us, hl with | [_, _, _, _], _ => rfl) sc__law_lines (fun vs H Q E h => ?_) (fun cdv A outer s H vs Q E hr h => ?_)
  · obtain ⟨na, ka, at_, m, ks, rfl, _⟩ := h
    rfl
  have hu := hu_of hr
  obtain ⟨na, ka, at_, m, ks, rfl, hn, hk, kne, k24, a0, a1, m0, m1, q⟩ := h
  refine ⟨_, (pss_cons (ps_set (i := 4) sc__law_lines.nd rfl (by first | exact Or.inl rfl | exact Or.inr rfl) (pe_c c__law_names hr (by decide) (by rfl) (pa_cons (pe_callTy call_int1 (by rfl) T.int (by decide +kernel) (pa_cons (pe_ix ix_list (pv 0) (pv 1) (fun _ _ => rfl)) pa_nil)) (pa_cons (pv 3) pa_nil))))
      (pss_cons (ps_set (i := 5) sc__law_lines.nd rfl (by first | exact Or.inl rfl | exact Or.inr rfl) (pe_lst pa_nil))
      (pss_cons (ps_for PassesOwn.never rfl (pi_range1 (by rfl) T.range (pa_cons (pv 3) pa_nil)) (pg_name (i := 6) sc__law_lines.nd rfl (by first | exact Or.inl rfl | exact Or.inr rfl))
      (pss_cons (ps_set (i := 7) sc__law_lines.nd rfl (by first | exact Or.inl rfl | exact Or.inr rfl) (pe_callTy call_int1 (by rfl) T.int (by decide +kernel) (pa_cons (pe_ix ix_list (pv 0) (pe_op op_add (pe_op op_add (pv 1) pe_int) (pv 6)) (fun _ _ => rfl)) pa_nil)))
      (pss_one (ps_expr (pe_bm PySem.F.plainAttrs_list PySem.F.slot_list_append PySem.F.type_list_append mt_append (pv 5) (pa_cons (pe_tup (pa_cons (pe_ix ix_list (pv 4) (pv 6) (fun _ _ => rfl)) (pa_cons (pe_ix ix_list (pv 2) (pe_op op_mod (pe_callTy call_int1 (by rfl) T.int (by decide +kernel) (pa_cons (pv 7) pa_nil)) (pe_callB call_len_seq (by rfl) T.len (by decide +kernel) (pa_cons (pv 2) pa_nil))) (fun _ _ => rfl)) (pa_cons (pe_ix ix_list (pv 2) (pe_op op_mod (pe_callTy call_int1 (by rfl) T.int (by decide +kernel) (pa_cons (pe_op op_add (pe_op op_fdiv (pv 7) pe_int) pe_int) pa_nil)) (pe_callB call_len_seq (by rfl) T.len (by decide +kernel) (pa_cons (pv 2) pa_nil))) (fun _ _ => rfl)) pa_nil)))) pa_nil))))))
      (pss_one (ps_ret (pv 5)))))), ?_⟩
  have kpos : 0 < ks.length := List.length_pos_iff.mpr kne
  obtain ⟨ys0, x0, ey0, ex0, b0, c0⟩ := hn.get a0 (by omega)
  refine ⟨.ref na, rfl, _, rfl, na, ys0, _, _, rfl, rfl, SqL.of ey0, ex0, .inl ⟨_, rfl, _, rfl, x0, m, rfl, b0, c0, m0, by omega, fun H1 ma ns s1 nma hma lma nd gd => ?_⟩⟩
  refine ⟨Nat.zero_le _, fun la hla => ?_⟩
  have s2 := s1.trans (same_upd (o := .lst []) hla)
  have nla : H la = none := s1.free hla
  have hma2 := same_upd (o := .lst []) hla _ _ hma
  have nl : ns.length ≤ 6 := by omega
  have kposI : (0 : Int) < ((ks.map V.str).length : Nat) := by
    rw [List.length_map]
    omega
  have knot : ∀ e : Int, ∃ x, atI (ks.map V.str) (e % (((ks.map V.str).length : Nat) : Int)) = some (.str x) ∧ x ∈ ks := fun e => by
    have h1 := Int.emod_nonneg e (Int.ne_of_gt kposI)
    have h2 := Int.emod_lt_of_pos e kposI
    exact str_at h1 (by rw [List.length_map] at h2 ⊢; exact h2)
  refine ⟨_, rfl, m, rfl, by omega, by omega, for_range (fun i σ H' => ∃ (y6 y7 : Option V) (row : Str → List V), σ = [some (.ref na), some (.int at_), some (.ref ka), some (.int m), some (.ref ma), some (.ref la), y6, y7] ∧ Same H H' ∧ H' ma = some (.lst (ns.map V.str)) ∧ LTab H' la (ns.take i) row ∧ ∀ n ∈ ns.take i, ∃ x y, row n = [.str n, .str x, .str y] ∧ x ∈ ks ∧ y ∈ ks)
    ⟨none, none, fun _ => [], rfl, s2, hma2, ⟨fun _ => 0, upd_same, fun m h => (nomatch h)⟩, fun m h => (nomatch h)⟩ ?_ ?_⟩
  · rintro i σ H3 hi ⟨y6, y7, row, rfl, s3, hm3, ⟨t, hl3, ht3⟩, hrow⟩
    have il : i < ns.length := by omega
    obtain ⟨n, hn1⟩ : ∃ n, ns[i]? = some n := ⟨ns[i], List.getElem?_eq_getElem il⟩
    have an : atI (ns.map V.str) (0 + (i : Int)) = some (.str n) := by
      rw [Int.zero_add]
      exact atI_nat (by rw [List.getElem?_map, hn1]; rfl)
    obtain ⟨ys, e, ey, ex, e0, e1⟩ := (hn.same s3).get (i := at_ + 1 + (0 + (i : Int))) (by omega) (by omega)
    refine ⟨.ref na, rfl, _, rfl, _, _, rfl, rfl, _, rfl, _, _, rfl, rfl, na, ys, _, _, rfl, rfl, SqL.of ey, ex, .inl ⟨_, rfl, ?_⟩⟩
    have hk3 := s3 _ _ hk
    obtain ⟨x, ax, mx⟩ := knot e
    obtain ⟨y, ay, my⟩ := knot (e / 16 + 1)
    refine ⟨.ref la, rfl, .inl ⟨rfl, _, SqL.of hl3⟩, .ref ma, rfl, _, rfl, ma, _, _, .str n, rfl, rfl, SqL.of hm3, an, .ref ka, rfl, _, rfl, .inl ⟨_, rfl, .ref ka, rfl, ka, _, rfl, .inl (SqL.of hk3), _, _, rfl, rfl, kposI, ka, _, _, .str x, rfl, rfl, SqL.of hk3, ax, ?_⟩⟩
    refine ⟨.ref ka, rfl, _, rfl, _, _, rfl, rfl, ⟨by decide, by decide⟩, _, _, rfl, rfl, .inl ⟨_, rfl, .ref ka, rfl, ka, _, rfl, .inl (SqL.of hk3), _, _, rfl, rfl, kposI, ka, _, _, .str y, rfl, rfl, SqL.of hk3, ay, by show 3 ≤ sizeLine; decide, fun q2 hq => ⟨la, _, _, rfl, rfl, same_upd hq _ _ hl3, sz_lt ?_, ?_⟩⟩⟩
    · rw [List.length_map, List.length_take]
      omega
    · have ek : ns.take (i + 1) = ns.take i ++ [n] := by rw [List.take_add_one, hn1]; rfl
      have new := take_new nd hn1
      refine ⟨_, _, rset row n [.str n, .str x, .str y], rfl, (s3.trans (same_upd hq)).mut nla, ?_, ?_, ?_⟩
      · rw [upd_ne (ne_of_none hma hla)]
        exact same_upd hq _ _ hm3
      · rw [ek]
        exact ltab_put hl3 ht3 new hq
      · rw [ek]
        exact rset_all (A := fun n r => ∃ x y, r = [.str n, .str x, .str y] ∧ x ∈ ks ∧ y ∈ ks) hrow ⟨x, y, rfl, mx, my⟩
  · rintro σ H3 ⟨y6, y7, row, rfl, s3, hm3, tab, hrow⟩
    have et : ns.take m.toNat = ns := List.take_of_length_le (by omega)
    rw [et] at tab hrow
    obtain ⟨tl, hd, r1, r2⟩ := rows_lin hrow
    obtain ⟨t, hl3, ht3⟩ := tab
    exact ⟨_, rfl, q H3 la ns tl hd s3 nla ⟨t, hl3, fun n h => by rw [← r1 n h]; exact ht3 n h⟩ nd (fun n h => ⟨gd n h, r2 n h⟩) nl⟩
end
end Ms
set_option Elab.async false
set_option linter.all false
set_option maxRecDepth 100000
set_option maxHeartbeats 4000000
/-! The law's rounds and plant. -/
namespace Ms
open PySem PySem.Spec PyProof.Rows L2
theorem first_at {x : Str} : ∀ {xs : List Str}, x ∈ xs → ∃ j, xs[j]? = some x ∧ ∀ (m : Nat) (y : Str), m < j → xs[m]? = some y → y ≠ x
  | [], h => nomatch h
  | z :: zs, h => by
    by_cases c : z = x
    · exact ⟨0, by rw [c]; rfl, fun m y hm => absurd hm (Nat.not_lt_zero _)⟩
    · obtain ⟨j, a, b⟩ := first_at ((List.mem_cons.mp h).resolve_left fun e => c e.symm)
      refine ⟨j + 1, a, fun m y hm hy => ?_⟩
      cases m with
      | zero =>
        have e : z = y := Option.some.inj hy
        rw [← e]
        exact c
      | succ m => exact b m y (by omega) hy
theorem cut_from (xs : List V) (j : Nat) : cutV xs (some (j : Int)) none = xs.drop (min j xs.length) := by
  unfold cutV
  rw [HT.sIx_none, HT.sIx_nat]
  refine List.take_of_length_le ?_
  rw [List.length_drop]
  exact Nat.le_refl _
theorem eqV_str (a b : Str) : eqV (.str a) (.str b) = decide (a = b) := by
  by_cases c : a = b
  · subst c
    simp [eqV]
  · simp [eqV, c]
section
variable {P : Program} {w : World} {K : PySem.W.Frag} {mg : Str → Option Value} {base : Heap} {C CM CR : Addr}
/-! ### _law_rounds -/
abbrev s__law_rounds : Stmt := topS 49
abbrev N__law_rounds : List Str := ["_law_numbers_here", "_law_at", "_law_lines_here", "_law_flows", "_law_line", "_law_turn", "_law_place", "_law_step", "_law_seen", "_law_way", "_law_ways", "_law_name"]
theorem sc__law_rounds : FnScope N__law_rounds ["_law_numbers_here", "_law_at", "_law_lines_here"] (defScope s__law_rounds) := ⟨rfl, rfl, rfl, by decide +kernel, rfl, by decide +kernel, by decide +kernel⟩
def spRounds : Sp := fun vs H Q _ => ∃ (na la : Addr) (at_ : Int) (ns : List Str) (tl hd : Str → Str), vs = [.ref na, .int at_, .ref la] ∧ NumAt H na ∧ LinAt H la ns tl hd ∧ ns.Nodup ∧ ns.length ≤ 6 ∧ 0 ≤ at_ ∧ at_ ≤ 60 ∧
  ∀ H' r f, Same H H' → H r = none → FlAt H' r ns f → (∀ n ∈ ns, 0 ≤ f n ∧ f n ≤ 200) → Q (.ref r) H'
set_option maxHeartbeats 8000000 in
theorem ok_law_rounds (T : Txt K mg C CM CR) {f : Addr} {fd : FuncData} (D : DefIn K mg "_law_rounds" s__law_rounds f fd) : Cal P w K mg base 1 "_law_rounds" spRounds := by
  refine cal_of (N := N__law_rounds) D (ps := ["_law_numbers_here", "_law_at", "_law_lines_here"]) (fun _ _ _ _ _ _ us hl => match us, hl with | [_, _, _], _ => rfl) sc__law_rounds (fun vs H Q E h => ?_) (fun cdv A outer s H vs Q E hr h => ?_)
  · obtain ⟨na, la, at_, ns, tl, hd, rfl, _⟩ := h
    rfl
  have hu := hu_of hr
  obtain ⟨na, la, at_, ns, tl, hd, rfl, hn, ⟨t, hl1, hl2⟩, nd, n6, a0, a1, q⟩ := h
  refine ⟨_, (pss_cons (ps_set (i := 3) sc__law_rounds.nd rfl (by first | exact Or.inl rfl | exact Or.inr rfl) pe_dnewK)
      (pss_cons (ps_for PassesOwn.never rfl (pi_list (pv 2)) (pg_name (i := 4) sc__law_rounds.nd rfl (by first | exact Or.inl rfl | exact Or.inr rfl))
      (pss_one (ps_dput hu (pv 3) (pe_ix ix_tup (pv 4) pe_int (fun _ _ => rfl)) pe_int rfl)))
      (pss_cons (ps_for PassesOwn.never rfl (pi_range1 (by rfl) T.range (pa_cons (pe_callB (call_min2 rfl) (by rfl) T.min (by decide +kernel) (pa_cons pe_int (pa_cons (pe_callB call_len_seq (by rfl) T.len (by decide +kernel) (pa_cons (pv 2) pa_nil)) pa_nil))) pa_nil)) (pg_name (i := 5) sc__law_rounds.nd rfl (by first | exact Or.inl rfl | exact Or.inr rfl))
      (pss_cons (ps_set (i := 6) sc__law_rounds.nd rfl (by first | exact Or.inl rfl | exact Or.inr rfl) (pe_ix ix_tup (pe_ix ix_list (pv 2) (pe_op op_mod (pe_callTy call_int1 (by rfl) T.int (by decide +kernel) (pa_cons (pe_ix ix_list (pv 0) (pe_op op_add (pv 1) (pe_op op_mul pe_int (pv 5))) (fun _ _ => rfl)) pa_nil)) (pe_callB call_len_seq (by rfl) T.len (by decide +kernel) (pa_cons (pv 2) pa_nil))) (fun _ _ => rfl)) pe_int (fun _ _ => rfl)))
      (pss_cons (ps_par (i := 8) (j := 9) (by rfl) sc__law_rounds.nd rfl rfl (by decide) rfl rfl (pa_cons (pe_lst (pa_cons (pv 6) pa_nil)) (pa_cons (pe_lst pa_nil) pa_nil)) (by rfl))
      (pss_one (ps_for PassesOwn.never rfl (pi_range1 (by rfl) T.range (pa_cons pe_int pa_nil)) (pg_name (i := 7) sc__law_rounds.nd rfl (by first | exact Or.inl rfl | exact Or.inr rfl))
      (pss_cons (ps_setLc (i := 10) (own := [("_law_line", 4)]) (by rfl) sc__law_rounds.nd rfl rfl (sw_true rfl rfl rfl (by decide +kernel)) (pi_list (pv 2)) (blkOk_by (own := [("_law_line", 4)]) (N := N__law_rounds) (sc := defScope s__law_rounds) (by decide +kernel)) (fun _ _ _ _ _ => (pg_name (i := 4) sc__law_rounds.nd rfl (by first | exact Or.inl rfl | exact Or.inr rfl))) (fun _ _ _ _ _ => (pts_one (pt_cmpR op_eq (pe_ix (ix_tK (K := K) rfl) (pv 4) pe_int (fun _ _ => rfl)) (pv 6) (nomark _)))) (fun _ _ _ _ _ => (pv 4)))
      (pss_cons (ps_if (pt_cmpR op_eq (pe_callB call_len_seq (by rfl) T.len (by decide +kernel) (pa_cons (pv 10) pa_nil)) pe_int (nomark _)) (pss_one ps_break) pss_nil)
      (pss_cons (ps_set (i := 4) sc__law_rounds.nd rfl (by first | exact Or.inl rfl | exact Or.inr rfl) (pe_ix ix_list (pv 10) (pe_op op_mod (pe_callTy call_int1 (by rfl) T.int (by decide +kernel) (pa_cons (pe_ix ix_list (pv 0) (pe_op op_add (pe_op op_add (pe_op op_add (pv 1) (pe_op op_mul pe_int (pv 5))) pe_int) (pv 7)) (fun _ _ => rfl)) pa_nil)) (pe_callB call_len_seq (by rfl) T.len (by decide +kernel) (pa_cons (pv 10) pa_nil))) (fun _ _ => rfl)))
      (pss_cons (ps_expr (pe_bm PySem.F.plainAttrs_list PySem.F.slot_list_append PySem.F.type_list_append mt_append (pv 9) (pa_cons (pe_ix ix_tup (pv 4) pe_int (fun _ _ => rfl)) pa_nil)))
      (pss_cons (ps_set (i := 6) sc__law_rounds.nd rfl (by first | exact Or.inl rfl | exact Or.inr rfl) (pe_ix ix_tup (pv 4) pe_int (fun _ _ => rfl)))
      (pss_cons (ps_if (pt_cmpR op_in_seq (pv 6) (pv 8) (by with_unfolding_all rfl)) (pss_cons (ps_for PassesOwn.never rfl (pi_list (pe_slice sl_list (pv 9) (po_some (pe_bm PySem.F.plainAttrs_list PySem.F.slot_list_index PySem.F.type_list_index mt_index (pv 8) (pa_cons (pv 6) pa_nil))) po_none)) (pg_name (i := 11) sc__law_rounds.nd rfl (by first | exact Or.inl rfl | exact Or.inr rfl))
      (pss_one (ps_dput hu (pv 3) (pv 11) (pe_op op_add (pe_op op_add (pe_dget hu (pv 3) (pv 11) (fun _ _ => rfl)) pe_int) (pe_op op_mod (pe_op op_fdiv (pe_callTy call_int1 (by rfl) T.int (by decide +kernel) (pa_cons (pe_ix ix_list (pv 0) (pe_op op_add (pv 1) (pe_op op_mul pe_int (pv 5))) (fun _ _ => rfl)) pa_nil)) pe_int) pe_int)) rfl)))
      (pss_one ps_break)) pss_nil)
      (pss_one (ps_expr (pe_bm PySem.F.plainAttrs_list PySem.F.slot_list_append PySem.F.type_list_append mt_append (pv 8) (pa_cons (pv 6) pa_nil)))))))))))))))
      (pss_one (ps_ret (pv 3)))))), ?_⟩
  refine fun fl hfl => ?_
  have s0 := same_upd (o := .dK []) hfl
  refine ⟨.ref la, rfl, la, rfl, ⟨_, SqL.of (s0 _ _ hl1)⟩, for_list (K := K) (a := la) (xs := ns.map fun n => V.ref (t n)) (fun i σ H' => ∃ y4, σ = [some (.ref na), some (.int at_), some (.ref la), some (.ref fl), y4, none, none, none, none, none, none, none] ∧ Same H H' ∧ FlAt H' fl (ns.take i) fun _ => 0) ⟨none, rfl, s0, upd_same⟩ (fun i σ H' _ z => ?_) ?_ ?_⟩
  · obtain ⟨_, _, s1, _⟩ := z
    exact SqL.of (s1 _ _ hl1)
  · rintro i v σ H1 hv ⟨y4, rfl, s1, hf1⟩
    obtain ⟨n, rfl, hn1⟩ := get_map hv
    have new := take_new nd hn1
    refine ⟨.ref fl, rfl, .ref (t n), rfl, t n, _, 0, .str n, rfl, rfl, SqT.of (s1 _ _ (hl2 n (List.mem_of_getElem? hn1))), rfl, fl, _, rfl, dputN hf1 new (by rw [List.length_take]; omega), _, rfl, s1.mut hfl, ?_⟩
    unfold FlAt
    rw [upd_same, List.take_add_one, hn1, gI_set]
    refine congrArg (fun z => some (HO.dK z)) (kvs_congr fun m _ => ?_)
    unfold gI fset
    split <;> rfl
  rintro σ H1 ⟨y4, rfl, s1, hf1⟩
  rw [List.length_map, List.take_length] at hf1
  refine ⟨.ref la, rfl, la, _, rfl, .inl (SqL.of (s1 _ _ hl1)), _, _, rfl, _, rfl, ?_, ?_, ?_⟩
  · split <;> omega
  · rw [List.length_map]
    split <;> omega
  rw [List.length_map]
  have nT : (if (ns.length : Int) < 3 then (ns.length : Int) else 3).toNat ≤ 3 ∧ (if (ns.length : Int) < 3 then (ns.length : Int) else 3).toNat ≤ ns.length := by
    constructor <;> split <;> omega
  generalize (if (ns.length : Int) < 3 then (ns.length : Int) else 3).toNat = nt at nT ⊢
  let Ov (i : Nat) : L2.St → Hp → Prop := fun σ H' => ∃ y4 y5 y6 y7 y8 y9 y10 y11 f, σ = [some (.ref na), some (.int at_), some (.ref la), some (.ref fl), y4, y5, y6, y7, y8, y9, y10, y11] ∧ Same H H' ∧ FlAt H' fl ns f ∧ ∀ n ∈ ns, 0 ≤ f n ∧ f n ≤ 54 * i
  refine for_range Ov ⟨_, _, _, _, _, _, _, _, fun _ => 0, rfl, s1, hf1, fun n _ => ⟨Int.le_refl _, by show (0 : Int) ≤ 54 * 0; decide⟩⟩ ?_ ?_
  · rintro i σ H2 hi ⟨y4, y5, y6, y7, y8, y9, y10, y11, f, rfl, s2, hf2, bf⟩
    have npos : (0 : Int) < ((ns.map fun n => V.ref (t n)).length : Nat) := by
      rw [List.length_map]
      omega
    obtain ⟨ys0, e0, ey0, ex0, b0, c0⟩ := (hn.same s2).get (i := at_ + 10 * (0 + (i : Int))) (by omega) (by omega)
    have line : ∀ e : Int, ∃ n, atI (ns.map fun n => V.ref (t n)) (e % (((ns.map fun n => V.ref (t n)).length : Nat) : Int)) = some (.ref (t n)) ∧ n ∈ ns := fun e => by
      have h1 := Int.emod_nonneg e (Int.ne_of_gt npos)
      have h2 := Int.emod_lt_of_pos e npos
      obtain ⟨j, ej⟩ := Int.eq_ofNat_of_zero_le h1
      rw [ej] at h2 ⊢
      rw [List.length_map] at h2
      have lj : j < ns.length := by omega
      exact ⟨ns[j], atI_nat (by rw [List.getElem?_map, List.getElem?_eq_getElem lj]; rfl), List.getElem_mem lj⟩
    obtain ⟨n0, an0, mn0⟩ := line e0
    have hl12 := s2 _ _ hl1
    refine ⟨.ref la, rfl, .ref na, rfl, _, rfl, _, rfl, _, _, rfl, rfl, .inl (by decide), _, _, rfl, rfl, na, ys0, _, _, rfl, rfl, SqL.of ey0, ex0, .inl ⟨_, rfl, .ref la, rfl, la, _, rfl, .inl (SqL.of hl12), _, _, rfl, rfl, npos, la, _, _, .ref (t n0), rfl, rfl, SqL.of hl12, an0, t n0, _, 1, .str (tl n0), rfl, rfl, SqT.of (s2 _ _ (hl2 n0 mn0)), rfl, ?_⟩⟩
    refine ⟨_, rfl, (by show 1 ≤ sizeLine; decide), fun sn hsn => ⟨Nat.zero_le _, fun wy hwy => ⟨_, _, rfl, ?_⟩⟩⟩
    have s3 := (s2.trans (same_upd (o := .lst [.str (tl n0)]) hsn)).trans (same_upd (o := .lst []) hwy)
    have nsn : H sn = none := s2.free hsn
    have nwy : H wy = none := (s2.trans (same_upd (o := .lst [.str (tl n0)]) hsn)).free hwy
    have snwy : sn ≠ wy := ne_of_none upd_same hwy
    have fsn : fl ≠ sn := ne_of_none hf2 hsn
    have fwy : fl ≠ wy := ne_of_none (same_upd (o := .lst [.str (tl n0)]) hsn _ _ hf2) hwy
    refine ⟨9, rfl, by decide, by decide, for_range (fun k σ H' => ∃ (y4 y7 y10 y11 : Option V) (x : Str) (ss ww : List Str), σ = [some (.ref na), some (.int at_), some (.ref la), some (.ref fl), y4, some (.int (0 + (i : Int))), some (.str x), y7, some (.ref sn), some (.ref wy), y10, y11] ∧ Same H H' ∧ FlAt H' fl ns f ∧ H' sn = some (.lst (ss.map V.str)) ∧ H' wy = some (.lst (ww.map V.str)) ∧ ss.length = k + 1 ∧ ww.length = k ∧ ∀ n ∈ ww, n ∈ ns)
      ⟨_, _, _, _, tl n0, [tl n0], [], rfl, s3, ?_, ?_, upd_same, rfl, rfl, fun n h => (nomatch h)⟩ ?_ ?_⟩
    · unfold FlAt
      rw [upd_ne fwy, upd_ne fsn]
      exact hf2
    · rw [upd_ne snwy]
      exact upd_same
    · rintro k σ H4 hk ⟨y4, y7, y10, y11, x, ss, ww, rfl, s4, hf4, hs4, hw4, ls, lw, mw⟩
      have hk : k < 9 := hk
      have hl14 := s4 _ _ hl1
      -- ways
      refine ⟨.ref la, rfl, la, rfl, ⟨_, SqL.of hl14⟩, fun wa hwa => ?_⟩
      refine lc_it (walk_list (xs := ns.map fun n => V.ref (t n))) (LcP H4 wa fun i acc _ => acc = ((ns.take i).filter fun n => decide (V.str (tl n) = V.str x)).map fun n => V.ref (t n)) (LcP.start hwa rfl) (fun i H' _ z => SqL.of (z.1 _ _ hl14)) ?_ ?_
      · rintro j v H5 H6 hj ⟨s5, acc, hc, rfl⟩ ⟨rfl, hv⟩
        obtain ⟨n, rfl, hn1⟩ := get_map hv
        obtain ⟨g1, g2⟩ := flt_putG hwa s5 hn1 (by omega) hc
        exact ⟨rfl, .ref (t n), rfl, t n, _, 1, .str (tl n), rfl, rfl, SqT.of (s5 _ _ (s4 _ _ (hl2 n (List.mem_of_getElem? hn1)))), rfl, _, rfl, rfl, _, rfl, iteB (fun e => ⟨_, rfl, g1 e⟩) g2⟩
      rintro H5 ⟨s5, acc, hwa5, rfl⟩
      rw [List.length_map, List.take_length] at hwa5
      have wsub : ∀ n ∈ ns.filter (fun n => decide (V.str (tl n) = V.str x)), n ∈ ns := fun n h => (List.mem_filter.mp h).1
      have wl6 : (ns.filter fun n => decide (V.str (tl n) = V.str x)).length ≤ 6 := Nat.le_trans (List.length_filter_le _ _) n6
      generalize ns.filter (fun n => decide (V.str (tl n) = V.str x)) = ways at hwa5 wsub wl6
      have s45 := s4.trans s5
      have hf5 := s5 _ _ hf4
      have hs5 := s5 _ _ hs4
      have hw5 := s5 _ _ hw4
      have wf : ∀ n ∈ ns, 0 ≤ f n ∧ f n ≤ 54 * ((i + 1 : Nat) : Int) := fun n h => ⟨(bf n h).1, by have := (bf n h).2; omega⟩
      refine ⟨.ref wa, rfl, wa, _, rfl, .inl (SqL.of hwa5), rfl, _, rfl, ite2 (fun _ => ?_) fun ne => ?_⟩
      · exact ⟨_, _, _, _, _, _, _, _, f, rfl, s45, hf5, wf⟩
      have wpos : (0 : Int) < ((ways.map fun n => V.ref (t n)).length : Nat) := by
        have : (ways.map fun n => V.ref (t n)).length ≠ 0 := fun z => ne (decide_eq_true (by rw [z]; rfl))
        omega
      obtain ⟨ys1, e1, ey1, ex1, b1, c1⟩ := (hn.same s45).get (i := at_ + 10 * (0 + (i : Int)) + 1 + (0 + (k : Int))) (by omega) (by omega)
      obtain ⟨n1, an1, mn1⟩ : ∃ n, atI (ways.map fun n => V.ref (t n)) (e1 % (((ways.map fun n => V.ref (t n)).length : Nat) : Int)) = some (.ref (t n)) ∧ n ∈ ways := by
        have h1 := Int.emod_nonneg e1 (Int.ne_of_gt wpos)
        have h2 := Int.emod_lt_of_pos e1 wpos
        obtain ⟨j, ej⟩ := Int.eq_ofNat_of_zero_le h1
        rw [ej] at h2 ⊢
        rw [List.length_map] at h2
        have lj : j < ways.length := by omega
        exact ⟨ways[j], atI_nat (by rw [List.getElem?_map, List.getElem?_eq_getElem lj]; rfl), List.getElem_mem lj⟩
      have mn1' := wsub n1 mn1
      have t5 := s45 _ _ (hl2 n1 mn1')
      refine ⟨.ref wa, rfl, .ref na, rfl, _, rfl, _, rfl, _, _, rfl, rfl, .inl (by decide), _, _, rfl, rfl, _, _, rfl, rfl, _, rfl, _, _, rfl, rfl, na, ys1, _, _, rfl, rfl, SqL.of ey1, ex1, .inl ⟨_, rfl, .ref wa, rfl, wa, _, rfl, .inl (SqL.of hwa5), _, _, rfl, rfl, wpos, wa, _, _, .ref (t n1), rfl, rfl, SqL.of hwa5, an1, ?_⟩⟩
      refine ⟨.ref wy, rfl, .inl ⟨rfl, _, SqL.of hw5⟩, .ref (t n1), rfl, t n1, _, 0, .str n1, rfl, rfl, SqT.of t5, rfl, wy, _, _, rfl, rfl, hw5, sz_lt (by rw [List.length_map]; omega), ?_⟩
      have s6 := s45.mut (o := .lst (ww.map V.str ++ [V.str n1])) nwy
      have t6 := s6 _ _ (hl2 n1 mn1')
      refine ⟨.ref (t n1), rfl, t n1, _, 2, .str (hd n1), rfl, rfl, SqT.of t6, rfl, ?_⟩
      have hs6 : upd H5 wy (.lst (ww.map V.str ++ [V.str n1])) sn = some (.lst (ss.map V.str)) := by
        rw [upd_ne snwy]
        exact hs5
      have hf6 : FlAt (upd H5 wy (.lst (ww.map V.str ++ [V.str n1]))) fl ns f := by
        unfold FlAt
        rw [upd_ne fwy]
        exact hf5
      have hw6 : upd H5 wy (.lst (ww.map V.str ++ [V.str n1])) wy = some (.lst ((ww ++ [n1]).map V.str)) := by
        rw [upd_same, List.map_append]
        rfl
      have mw6 : ∀ n ∈ ww ++ [n1], n ∈ ns := fun n h => (List.mem_append.mp h).elim (mw n) fun e => by rw [List.mem_singleton.mp e]; exact mn1'
      have lw6 : (ww ++ [n1]).length = k + 1 := by
        rw [List.length_append, lw]
        rfl
      generalize upd H5 wy (.lst (ww.map V.str ++ [V.str n1])) = H6 at s6 hs6 hf6 hw6 t6 ⊢
      generalize ww ++ [n1] = wz at hw6 mw6 lw6
      refine ⟨_, rfl, .ref sn, rfl, sn, _, rfl, .inl (SqL.of hs6), rfl, flatS ss, decide (hd n1 ∈ ss), ?_, ?_⟩
      · show V.bl (inV (.str (hd n1)) (ss.map V.str)) = _
        rw [in_strs]
      by_cases md : hd n1 ∈ ss
      · refine iteD md ?_
        obtain ⟨j, hj, hmin⟩ := first_at md
        refine ⟨.ref wy, rfl, .ref sn, rfl, .inl ⟨rfl, _, SqL.of hs6⟩, _, rfl, sn, _, .str (hd n1), j, .str (hd n1), rfl, rfl, SqL.of hs6, rfl, flatS ss, by rw [List.getElem?_map, hj]; rfl, by rw [eqV_str, decide_eq_true rfl], fun m z' hm hz' => ?_, _, rfl, wy, _, rfl, SqL.of hw6, fun cu hcu => ⟨cu, rfl, ⟨_, SqL.of upd_same⟩, ?_⟩⟩
        · obtain ⟨z, rfl, hz⟩ := get_str hz'
          rw [eqV_str, decide_eq_false (hmin m z hm hz)]
        have ec : cutV (wz.map V.str) (some (j : Int)) none = (wz.drop (min j (wz.map V.str).length)).map V.str := by
          rw [cut_from, List.map_drop]
        rw [ec]
        have ml : ∀ n ∈ wz.drop (min j (wz.map V.str).length), n ∈ ns := fun n h => mw6 n (List.mem_of_mem_drop h)
        have ll : (wz.drop (min j (wz.map V.str).length)).length ≤ 9 := by
          rw [List.length_drop]
          omega
        generalize wz.drop (min j (wz.map V.str).length) = zs at ml ll
        have s7 := same_upd (o := .lst (zs.map V.str)) hcu
        have nfl : H fl = none := hfl
        refine for_list (K := K) (a := cu) (xs := zs.map V.str) (fun m σ H' => ∃ y11 f', σ = [some (.ref na), some (.int at_), some (.ref la), some (.ref fl), some (.ref (t n1)), some (.int (0 + (i : Int))), some (.str (hd n1)), some (.int (0 + (k : Int))), some (.ref sn), some (.ref wy), some (.ref wa), y11] ∧ Same H H' ∧ H' cu = some (.lst (zs.map V.str)) ∧ FlAt H' fl ns f' ∧ ∀ n ∈ ns, 0 ≤ f' n ∧ f' n ≤ 54 * (i : Int) + 6 * m)
          ⟨_, f, rfl, s6.trans s7, upd_same, s7 _ _ hf6, fun n h => ⟨(bf n h).1, by have := (bf n h).2; omega⟩⟩ (fun m σ H' _ z => ?_) ?_ ?_
        · obtain ⟨_, _, _, _, h, _⟩ := z
          exact SqL.of h
        · rintro m v σ H8 hv ⟨y11, f', rfl, s8, hc8, hf8, bf8⟩
          obtain ⟨n, rfl, hn2⟩ := get_str hv
          have mn := ml n (List.mem_of_getElem? hn2)
          obtain ⟨ys2, e2, ey2, ex2, b2, c2⟩ := (hn.same s8).get (i := at_ + 10 * (0 + (i : Int))) (by omega) (by omega)
          refine ⟨.ref fl, rfl, _, rfl, fl, _, rfl, dget (Rd.of hf8) mn, _, _, rfl, rfl, .ref na, rfl, _, rfl, _, rfl, _, _, rfl, rfl, .inl (by decide), _, _, rfl, rfl, na, ys2, _, _, rfl, rfl, SqL.of ey2, ex2, .inl ⟨_, rfl, _, _, rfl, rfl, ⟨by decide, by decide⟩, _, _, rfl, rfl, (by show (0 : Int) < 6; decide), _, _, rfl, rfl, .ref fl, rfl, _, rfl, fl, _, rfl, dput hf8 mn (by omega), ?_⟩⟩
          rw [gI_set]
          have cf : cu ≠ fl := fun z => by rw [z, hf8] at hc8; cases hc8
          refine ⟨_, _, rfl, s8.mut nfl, by rw [upd_ne cf]; exact hc8, upd_same, fun n' h' => ?_⟩
          have bn := bf8 n mn
          have bn' := bf8 n' h'
          unfold fset
          split <;> omega
        · rintro σ H8 ⟨y11, f', rfl, s8, hc8, hf8, bf8⟩
          rw [List.length_map] at bf8
          exact ⟨_, _, _, _, _, _, _, _, f', rfl, s8, hf8, fun n h => ⟨(bf8 n h).1, by have := (bf8 n h).2; omega⟩⟩
      · refine iteDF md ?_
        refine ⟨.ref sn, rfl, .inl ⟨rfl, _, SqL.of hs6⟩, _, rfl, sn, _, _, rfl, rfl, hs6, sz_lt (by rw [List.length_map]; omega), ?_⟩
        refine ⟨_, _, _, _, hd n1, ss ++ [hd n1], wz, rfl, s6.mut nsn, ?_, ?_, ?_, ?_, lw6, mw6⟩
        · unfold FlAt
          rw [upd_ne fsn]
          exact hf6
        · rw [upd_same, List.map_append]
          rfl
        · rw [upd_ne snwy.symm]
          exact hw6
        · rw [List.length_append, ls]
          rfl
    · rintro σ H4 ⟨y4, y7, y10, y11, x, ss, ww, rfl, s4, hf4, _⟩
      exact ⟨_, _, _, _, _, _, _, _, f, rfl, s4, hf4, fun n h => ⟨(bf n h).1, by have := (bf n h).2; omega⟩⟩
  · rintro σ H2 ⟨y4, y5, y6, y7, y8, y9, y10, y11, f, rfl, s2, hf2, bf⟩
    exact ⟨_, rfl, q H2 fl f s2 hfl hf2 fun n h => ⟨(bf n h).1, by have := (bf n h).2; omega⟩⟩
end
end Ms
set_option Elab.async false
set_option linter.all false
set_option maxRecDepth 100000
set_option maxHeartbeats 4000000
/-! The law's plant, limits, readings. -/
namespace Ms
open PySem PySem.Spec PyProof.Rows L2
theorem rows5 {A : Str → Int → Int → Prop} {tl hd : Str → Str} {done : List Str} {row : Str → List V} (h : ∀ n ∈ done, ∃ l u, row n = [.str n, .str (tl n), .str (hd n), .int l, .int u] ∧ A n l u) :
    ∃ bl bh : Str → Int, (∀ n ∈ done, row n = [.str n, .str (tl n), .str (hd n), .int (bl n), .int (bh n)]) ∧ ∀ n ∈ done, A n (bl n) (bh n) := by
  refine ⟨fun n => vI (row n) 3, fun n => vI (row n) 4, fun n hn => ?_, fun n hn => ?_⟩
  · obtain ⟨x, y, e, _⟩ := h n hn
    show row n = [.str n, .str (tl n), .str (hd n), .int (vI (row n) 3), .int (vI (row n) 4)]
    rw [e]
    rfl
  · obtain ⟨x, y, e, a⟩ := h n hn
    show A n (vI (row n) 3) (vI (row n) 4)
    rw [e]
    exact a
theorem rows2 {A : Str → Int → Int → Prop} {done : List Str} {row : Str → List V} (h : ∀ n ∈ done, ∃ l u, row n = [.int l, .int u] ∧ A n l u) :
    ∃ lo hi : Str → Int, (∀ n ∈ done, row n = [.int (lo n), .int (hi n)]) ∧ ∀ n ∈ done, A n (lo n) (hi n) := by
  refine ⟨fun n => vI (row n) 0, fun n => vI (row n) 1, fun n hn => ?_, fun n hn => ?_⟩
  · obtain ⟨x, y, e, _⟩ := h n hn
    show row n = [.int (vI (row n) 0), .int (vI (row n) 1)]
    rw [e]
    rfl
  · obtain ⟨x, y, e, a⟩ := h n hn
    show A n (vI (row n) 0) (vI (row n) 1)
    rw [e]
    exact a
theorem DTab.congr {H : Hp} {fo : Addr} {done : List Str} {row row' : Str → List V} (h : DTab H fo done row) (e : ∀ n ∈ done, row n = row' n) : DTab H fo done row' := by
  obtain ⟨t, a, b⟩ := h
  exact ⟨t, a, fun m hm => by rw [← e m hm]; exact b m hm⟩
theorem DTab.same {H H' : Hp} {fo : Addr} {done : List Str} {row : Str → List V} (h : DTab H fo done row) (e : Same H H') : DTab H' fo done row := by
  obtain ⟨t, a, b⟩ := h
  exact ⟨t, e _ _ a, fun m hm => e _ _ (b m hm)⟩
theorem dtab_set {H : Hp} {fo q : Addr} {done : List Str} {row : Str → List V} {t : Str → Addr} {n : Str} {r : List V} (h1 : H fo = some (.dK (kvs done fun m => V.ref (t m)))) (h2 : ∀ m ∈ done, H (t m) = some (.tup (row m))) (hn : n ∉ done) (hq : H q = none) :
    DTab (upd (upd H q (.tup r)) fo (.dK (kvs (done ++ [n]) (gset (fun m => V.ref (t m)) n (.ref q))))) fo (done ++ [n]) (rset row n r) := by
  have a := dtab_put (row := rset row n r) h1 (fun m hm => by
    rw [rset_ne row r (fun e => hn (by rw [← e]; exact hm))]
    exact h2 m hm) hn hq
  rw [rset_same] at a
  exact a
/-- a plant as the law holds it -/
def LawPl (H : Hp) (pp : Addr) (p : Pl) : Prop := ∃ ka sa, H pp = some (.tup [.ref ka, .ref sa]) ∧ H ka = some (.lst (p.ks.map V.str)) ∧ StrAt H sa p
theorem LawPl.same {H H' : Hp} {pp : Addr} {p : Pl} (h : LawPl H pp p) (e : Same H H') : LawPl H' pp p := by
  obtain ⟨ka, sa, a, b, c⟩ := h
  exact ⟨ka, sa, e _ _ a, e _ _ b, c.same e⟩
theorem FlAt.same {H H' : Hp} {fl : Addr} {lf : List Str} {f : Str → Int} (h : FlAt H fl lf f) (e : Same H H') : FlAt H' fl lf f := e _ _ h
theorem ref_at {t : Str → Addr} {ns : List Str} {i : Nat} {n : Str} (h : ns[i]? = some n) : atI (ns.map fun n => V.ref (t n)) (0 + (i : Int)) = some (.ref (t n)) := by
  rw [Int.zero_add]
  exact atI_nat (by rw [List.getElem?_map, h]; rfl)
section
variable {P : Program} {w : World} {K : PySem.W.Frag} {mg : Str → Option Value} {base : Heap} {C CM CR : Addr}
/-! ### _law_plant -/
abbrev s__law_plant : Stmt := topS 50
abbrev N__law_plant : List Str := ["_law_numbers_here", "_law_at", "_law_most_knots", "_law_most_streams", "_law_spread", "_law_knots", "_law_lines_here", "_law_flows", "_law_streams", "_law_k", "_law_bounds", "_law_middle"]
theorem sc__law_plant : FnScope N__law_plant ["_law_numbers_here", "_law_at", "_law_most_knots", "_law_most_streams", "_law_spread"] (defScope s__law_plant) := ⟨rfl, rfl, rfl, by decide +kernel, rfl, by decide +kernel, by decide +kernel⟩
def spLPlant : Sp := fun vs H Q _ => ∃ na : Addr, vs = [.ref na, .int 0, .int 4, .int 6, .int 4] ∧ NumAt H na ∧
  ∀ H' r pp fl p f, Same H H' → H r = none → H' r = some (.tup [.ref pp, .ref fl]) → LawPl H' pp p → FlAt H' fl p.ns f → Fine p → p.ns.length ≤ 6 → (∀ n ∈ p.ns, 0 ≤ f n ∧ f n ≤ 200) → Q (.ref r) H'
theorem ok_law_plant (T : Txt K mg C CM CR) {f : Addr} {fd : FuncData} (D : DefIn K mg "_law_plant" s__law_plant f fd) (c__law_names : Cal P w K mg base 1 "_law_names" spLNames) (c__law_lines : Cal P w K mg base 2 "_law_lines" spLLines) (c__law_rounds : Cal P w K mg base 1 "_law_rounds" spRounds) :
    Cal P w K mg base 3 "_law_plant" spLPlant := by
  refine cal_of (N := N__law_plant) D (ps := ["_law_numbers_here", "_law_at", "_law_most_knots", "_law_most_streams", "_law_spread"]) (fun _ _ _ _ _ _ us hl => match us, hl with | [_, _, _, _, _], _ => rfl) sc__law_plant (fun vs H Q E h => ?_) (fun cdv A outer s H vs Q E hr h => ?_)
  · obtain ⟨na, rfl, _⟩ := h
    rfl
  have hu := hu_of hr
  obtain ⟨na, rfl, hn, q⟩ := h
  refine ⟨_, (pss_cons (ps_set (i := 5) sc__law_plant.nd rfl (by first | exact Or.inl rfl | exact Or.inr rfl) (pe_c c__law_names hr (by decide) (by rfl) (pa_cons (pe_callTy call_int1 (by rfl) T.int (by decide +kernel) (pa_cons (pe_ix ix_list (pv 0) (pv 1) (fun _ _ => rfl)) pa_nil)) (pa_cons (pe_op op_add pe_int (pe_op op_mod (pe_callTy call_int1 (by rfl) T.int (by decide +kernel) (pa_cons (pe_ix ix_list (pv 0) (pe_op op_add (pv 1) pe_int) (fun _ _ => rfl)) pa_nil)) (pv 2))) pa_nil))))
      (pss_cons (ps_set (i := 6) sc__law_plant.nd rfl (by first | exact Or.inl rfl | exact Or.inr rfl) (pe_c c__law_lines hr (by decide) (by rfl) (pa_cons (pv 0) (pa_cons (pe_op op_add (pv 1) pe_int) (pa_cons (pv 5) (pa_cons (pe_op op_mod (pe_callTy call_int1 (by rfl) T.int (by decide +kernel) (pa_cons (pe_op op_fdiv (pe_ix ix_list (pv 0) (pe_op op_add (pv 1) pe_int) (fun _ _ => rfl)) pe_int) pa_nil)) (pe_op op_add (pv 3) pe_int)) pa_nil))))))
      (pss_cons (ps_set (i := 7) sc__law_plant.nd rfl (by first | exact Or.inl rfl | exact Or.inr rfl) (pe_c c__law_rounds hr (by decide) (by rfl) (pa_cons (pv 0) (pa_cons (pe_op op_add (pv 1) pe_int) (pa_cons (pv 6) pa_nil)))))
      (pss_cons (ps_set (i := 8) sc__law_plant.nd rfl (by first | exact Or.inl rfl | exact Or.inr rfl) (pe_lst pa_nil))
      (pss_cons (ps_for PassesOwn.never rfl (pi_range1 (by rfl) T.range (pa_cons (pe_callB call_len_seq (by rfl) T.len (by decide +kernel) (pa_cons (pv 6) pa_nil)) pa_nil)) (pg_name (i := 9) sc__law_plant.nd rfl (by first | exact Or.inl rfl | exact Or.inr rfl))
      (pss_cons (ps_set (i := 10) sc__law_plant.nd rfl (by first | exact Or.inl rfl | exact Or.inr rfl) (pe_callTy call_int1 (by rfl) T.int (by decide +kernel) (pa_cons (pe_ix ix_list (pv 0) (pe_op op_add (pe_op op_add (pv 1) pe_int) (pv 9)) (fun _ _ => rfl)) pa_nil)))
      (pss_cut (ps_set (i := 11) sc__law_plant.nd rfl (by first | exact Or.inl rfl | exact Or.inr rfl) (pe_op op_add (pe_dget hu (pv 7) (pe_ix ix_tup (pe_ix ix_list (pv 6) (pv 9) (fun _ _ => rfl)) pe_int (fun _ _ => rfl)) (fun _ _ => rfl)) (pe_op op_mul pe_int (pe_callTy call_int1 (by rfl) T.int (by decide +kernel) (pa_cons (pe_cmpR op_eq (pe_op op_mod (pe_callTy call_int1 (by rfl) T.int (by decide +kernel) (pa_cons (pv 10) pa_nil)) pe_int) pe_int (nomark _)) pa_nil)))))
      (pss_one (ps_expr (pe_bm PySem.F.plainAttrs_list PySem.F.slot_list_append PySem.F.type_list_append mt_append (pv 8) (pa_cons (pe_op op_catT (pe_ix ix_list (pv 6) (pv 9) (fun _ _ => rfl)) (pe_tup (pa_cons (pe_callB (call_max2 rfl) (by rfl) T.max (by decide +kernel) (pa_cons pe_int (pa_cons (pe_op op_sub (pv 11) (pe_op op_mod (pe_callTy call_int1 (by rfl) T.int (by decide +kernel) (pa_cons (pv 10) pa_nil)) (pv 4))) pa_nil))) (pa_cons (pe_op op_add (pv 11) (pe_op op_mod (pe_callTy call_int1 (by rfl) T.int (by decide +kernel) (pa_cons (pe_op op_fdiv (pv 10) pe_int) pa_nil)) (pv 4))) pa_nil)))) pa_nil)))))))
      (pss_one (ps_ret (pe_tup (pa_cons (pe_tup (pa_cons (pv 5) (pa_cons (pv 8) pa_nil))) (pa_cons (pv 7) pa_nil)))))))))), ?_⟩
  obtain ⟨ys0, x0, ey0, ex0, b0, c0⟩ := hn.get (i := 0) (by omega) (by omega)
  obtain ⟨ys1, x1, ey1, ex1, b1, c1⟩ := hn.get (i := 0 + 1) (by omega) (by omega)
  refine ⟨.ref na, rfl, _, rfl, na, ys0, _, _, rfl, rfl, SqL.of ey0, ex0, .inl ⟨_, rfl, .ref na, rfl, _, rfl, _, _, rfl, rfl, na, ys1, _, _, rfl, rfl, SqL.of ey1, ex1, .inl ⟨_, rfl, _, rfl, _, _, rfl, rfl, (by show (0 : Int) < 4; decide), _, _, rfl, rfl, ?_⟩⟩⟩
  refine ⟨x0, 1 + x1 % 4, rfl, b0, c0, by omega, by omega, fun H1 ka ks s1 nka hka lk ndk gk => ?_⟩
  have kne : ks ≠ [] := fun z => by
    rw [z] at lk
    have : (0 : Nat) = (1 + x1 % 4).toNat := lk
    omega
  have ey1' := s1 _ _ ey1
  refine ⟨.ref na, rfl, _, rfl, _, _, rfl, rfl, .ref ka, rfl, .ref na, rfl, _, rfl, _, _, rfl, rfl, na, ys1, _, _, rfl, rfl, SqL.of ey1', ex1, _, _, rfl, rfl, ⟨by decide, by decide⟩, .inl ⟨_, rfl, _, rfl, _, _, rfl, rfl, _, _, rfl, rfl, (by show (0 : Int) < 6 + 1; decide), ?_⟩⟩
  refine ⟨na, ka, 0 + 2, x1 / 16 % (6 + 1), ks, rfl, hn.same s1, hka, kne, by omega, by omega, by omega, by omega, by omega, fun H2 la ns tl hd s2 nla hla nd gd n6 => ?_⟩
  have s02 := s1.trans s2
  refine ⟨.ref na, rfl, _, rfl, _, _, rfl, rfl, .ref la, rfl, na, la, 0 + 27, ns, tl, hd, rfl, hn.same s02, hla, nd, n6, by omega, by omega, fun H3 fl f s3 nfl hf bf => ?_⟩
  have s03 := s02.trans s3
  obtain ⟨t, hl1, hl2⟩ := hla.same s3
  have hka3 := s3 _ _ (s2 _ _ hka)
  refine ⟨Nat.zero_le _, fun st hst => ?_⟩
  have s4 := same_upd (o := .lst []) hst
  let A : Str → Int → Int → Prop := fun n l u => 0 ≤ l ∧ l ≤ u ∧ u ≤ 1000000
  have l4 := s4 _ _ hl1
  refine ⟨.ref la, rfl, la, _, rfl, .inl (SqL.of l4), _, rfl, by omega, by rw [List.length_map]; omega, ?_⟩
  rw [List.length_map]
  refine for_range (fun i σ H' => ∃ (y9 y10 y11 : Option V) (row : Str → List V), σ = [some (.ref na), some (.int 0), some (.int 4), some (.int 6), some (.int 4), some (.ref ka), some (.ref la), some (.ref fl), some (.ref st), y9, y10, y11] ∧ Same H3 H' ∧ LTab H' st (ns.take i) row ∧ ∀ n ∈ ns.take i, ∃ l u, row n = [.str n, .str (tl n), .str (hd n), .int l, .int u] ∧ A n l u)
    ⟨none, none, none, fun _ => [], rfl, s4, ⟨fun _ => 0, upd_same, fun m h => (nomatch h)⟩, fun m h => (nomatch h)⟩ ?_ ?_
  · rintro i σ H5 hi ⟨y9, y10, y11, row, rfl, s5, ⟨tt, h5, ht5⟩, hrow⟩
    have il : i < ns.length := by
      show i < ns.length
      have := hi
      omega
    obtain ⟨n, hn1⟩ : ∃ n, ns[i]? = some n := ⟨ns[i], List.getElem?_eq_getElem il⟩
    have mn := List.mem_of_getElem? hn1
    have an := ref_at (t := t) hn1
    have hl5 := s5 _ _ hl1
    have t5 := s5 _ _ (hl2 n mn)
    have fb := bf n mn
    obtain ⟨ys, e, ey, ex, e0, e1⟩ := ((hn.same s03).same s5).get (i := 0 + 15 + (0 + (i : Int))) (by omega) (by omega)
    refine ⟨.ref na, rfl, _, rfl, _, _, rfl, rfl, _, rfl, _, _, rfl, rfl, na, ys, _, _, rfl, rfl, SqL.of ey, ex, .inl ⟨_, rfl, ?_⟩⟩
    refine ⟨fun σ' H' => ∃ mid : Int, σ' = [some (.ref na), some (.int 0), some (.int 4), some (.int 6), some (.int 4), some (.ref ka), some (.ref la), some (.ref fl), some (.ref st), some (.int (0 + (i : Int))), some (.int e), some (.int mid)] ∧ H5 = H' ∧ 0 ≤ mid ∧ mid ≤ 300, ?_, ?_⟩
    · refine ⟨.ref fl, rfl, .ref la, rfl, _, rfl, la, _, _, .ref (t n), rfl, rfl, SqL.of hl5, an, t n, _, 0, .str n, rfl, rfl, SqT.of t5, rfl, fl, _, rfl, dget (Rd.of (s5 _ _ hf)) mn, _, rfl, .inl ⟨_, rfl, _, _, rfl, rfl, (by show (0 : Int) < 31; decide), rfl, .inr ⟨_, rfl, _, _, rfl, rfl, .inl (by decide), _, _, rfl, rfl, _, rfl, rfl, ?_, ?_⟩⟩⟩
      · split <;> omega
      · split <;> omega
    rintro σ _ ⟨mid, rfl, rfl, mid0, mid1⟩
    refine ⟨.ref st, rfl, .inl ⟨rfl, _, SqL.of h5⟩, .ref la, rfl, _, rfl, la, _, _, .ref (t n), rfl, rfl, SqL.of hl5, an, _, rfl, _, rfl, .inl ⟨_, rfl, _, rfl, _, _, rfl, rfl, (by show (0 : Int) < 4; decide), _, _, rfl, rfl, _, _, rfl, ?_⟩⟩
    refine ⟨_, rfl, _, rfl, _, _, rfl, rfl, ⟨by decide, by decide⟩, .inl ⟨_, rfl, _, rfl, _, _, rfl, rfl, (by show (0 : Int) < 4; decide), _, _, rfl, rfl, (by show 2 ≤ sizeLine; decide), fun q1 hq1 => ?_⟩⟩
    have s6 := same_upd (o := .tup [.int (if mid - e % 4 > 0 then mid - e % 4 else 0), .int (mid + e / 16 % 4)]) hq1
    refine ⟨t n, q1, _, _, rfl, rfl, SqT.of (s6 _ _ t5), SqT.of upd_same, by simp, by show 3 + 2 ≤ sizeLine; decide, (fun z => nomatch z), fun _ q2 hq2 => ?_⟩
    have h6 := s6 _ _ h5
    have ht6 := fun m hm => s6 _ _ (ht5 m hm)
    generalize upd H5 q1 (.tup [.int (if mid - e % 4 > 0 then mid - e % 4 else 0), .int (mid + e / 16 % 4)]) = H6 at s6 h6 ht6 hq2 ⊢
    refine ⟨st, _, _, rfl, rfl, same_upd hq2 _ _ h6, sz_lt (by rw [List.length_map, List.length_take]; omega), ?_⟩
    have ek : ns.take (i + 1) = ns.take i ++ [n] := by rw [List.take_add_one, hn1]; rfl
    have new := take_new nd hn1
    refine ⟨_, _, _, rset row n [.str n, .str (tl n), .str (hd n), .int (if mid - e % 4 > 0 then mid - e % 4 else 0), .int (mid + e / 16 % 4)], rfl, ((s5.trans s6).trans (same_upd hq2)).mut hst, ?_, ?_⟩
    · rw [ek]
      exact ltab_put h6 ht6 new hq2
    · rw [ek]
      refine rset_all (A := fun n r => ∃ l u, r = [.str n, .str (tl n), .str (hd n), .int l, .int u] ∧ A n l u) hrow ⟨_, _, rfl, ?_, ?_, ?_⟩
      · split <;> omega
      · split <;> omega
      · omega
  · rintro σ H5 ⟨y9, y10, y11, row, rfl, s5, tab, hrow⟩
    have et : ns.take ((ns.length : Nat) : Int).toNat = ns := List.take_of_length_le (by omega)
    rw [et] at tab hrow
    obtain ⟨bl, bh, r1, r2⟩ := rows5 hrow
    obtain ⟨tt, h5, ht5⟩ := tab
    refine ⟨_, rfl, _, rfl, (by show 2 ≤ sizeLine; decide), fun pp hpp => ⟨_, rfl, (by show 2 ≤ sizeLine; decide), fun r hr6 => ?_⟩⟩
    have s6 := same_upd (o := .tup [.ref ka, .ref st]) hpp
    have s7 := same_upd (o := .tup [.ref pp, .ref fl]) hr6
    have s57 := (s5.trans s6).trans s7
    refine q _ r pp fl ⟨ks, ns, tl, hd, bl, bh⟩ f (s03.trans s57) (s03.free ((s5.trans s6).free hr6)) upd_same ⟨ka, st, s7 _ _ upd_same, s57 _ _ hka3, tt, (s6.trans s7) _ _ h5, fun m hm => (s6.trans s7) _ _ ?_⟩ (s57 _ _ hf) ?_ n6 bf
    · show H5 (tt m) = some (.tup [.str m, .str (tl m), .str (hd m), .int (bl m), .int (bh m)])
      rw [← r1 m hm]
      exact ht5 m hm
    · exact { kd := ndk, nd := nd, ends := fun m hm => (gd m hm).2, kl := by show ks.length ≤ 24; omega, nl := by show ns.length ≤ 24; omega, some := kne, gk := gk, gn := fun m hm => (gd m hm).1, bd := fun m hm => r2 m hm }
/-! ### _law_made -/
abbrev s__law_made : Stmt := topS 51
abbrev N__law_made : List Str := ["_law_plant_here"]
theorem sc__law_made : FnScope N__law_made ["_law_plant_here"] (defScope s__law_made) := ⟨rfl, rfl, rfl, by decide +kernel, rfl, by decide +kernel, by decide +kernel⟩
def spMade (C : Addr) : Sp := fun vs H Q _ => ∃ (pp : Addr) (p : Pl), vs = [.ref pp] ∧ LawPl H pp p ∧ Fine p ∧ ∀ H' r ks ns, Same H H' → H r = none → ks.Perm p.ks → ns.Perm p.ns → PlAt C H' r (p.order ks ns) → Q (.ref r) H'
theorem ok_law_made (T : Txt K mg C CM CR) {f : Addr} {fd : FuncData} (D : DefIn K mg "_law_made" s__law_made f fd) (m_Plant : Mak P w K mg base 3 "Plant" C (spPlant C)) : Cal P w K mg base 5 "_law_made" (spMade C) := by
  refine cal_of (N := N__law_made) D (ps := ["_law_plant_here"]) (fun _ _ _ _ _ _ us hl => match us, hl with | [_], _ => rfl) sc__law_made (fun vs H Q E h => ?_) (fun cdv A outer s H vs Q E hr h => ?_)
  · obtain ⟨pp, p, rfl, _⟩ := h
    rfl
  have hu := hu_of hr
  obtain ⟨pp, p, rfl, ⟨ka, sa, h1, h2, t, h3, h4⟩, F, q⟩ := h
  refine ⟨_, (pss_one (ps_ret (pe_mk m_Plant hr (by decide) (by rfl) (pa_cons (pe_callTy call_list_of (by rfl) T.list (by decide +kernel) (pa_cons (pe_ix ix_tup (pv 0) pe_int (fun _ _ => rfl)) pa_nil)) (pa_cons (pe_callTy call_list_of (by rfl) T.list (by decide +kernel) (pa_cons (pe_ix ix_tup (pv 0) pe_int (fun _ _ => rfl)) pa_nil)) pa_nil))))), ?_⟩
  refine ⟨.ref pp, rfl, pp, _, 0, .ref ka, rfl, rfl, SqT.of h1, rfl, ka, _, rfl, .inl (SqL.of h2), fun k1 hk1 => ?_⟩
  have s1 := same_upd (o := .lst (p.ks.map V.str)) hk1
  refine ⟨.ref pp, rfl, pp, _, 1, .ref sa, rfl, rfl, SqT.of (s1 _ _ h1), rfl, sa, _, rfl, .inl (SqL.of (s1 _ _ h3)), fun k2 hk2 => ?_⟩
  have s2 := same_upd (o := .lst (p.ns.map fun n => V.ref (t n))) hk2
  intro x dx hx hdx ne
  have s3 : Same _ _ := (same_upd (o := .own x) hdx).mut (o := .ins C dx []) hx
  have s03 := (s1.trans s2).trans s3
  refine ⟨x, dx, k1, k2, p, rfl, upd_same, s3 _ _ (s2 _ _ upd_same), ⟨t, s3 _ _ upd_same, fun n hn => s03 _ _ (h4 n hn)⟩, F, fun H' ks ns pk pn b pl => ⟨rfl, ?_⟩⟩
  exact q H' x ks ns (fun b' o' e' => But.same s03 b ((s1.trans s2).free hx) b' o' e') ((s1.trans s2).free hx) pk pn pl
end
end Ms
set_option Elab.async false
set_option linter.all false
set_option maxRecDepth 100000
set_option maxHeartbeats 4000000
/-! The law's limits and readings. -/
namespace Ms
open PySem PySem.Spec PyProof.Rows L2
def limRow (lo hi : Str → Int) : Str → List V := fun n => [.int (lo n), .int (hi n)]
theorem DTab.limits {H : Hp} {a : Addr} {ls : List Str} {lo hi : Str → Int} (h : DTab H a ls (limRow lo hi)) : LimAt H a ls lo hi := DTab.lim h
theorem int_at {xs : List Int} {i : Int} (h0 : 0 ≤ i) (h1 : i < xs.length) : ∃ x, atI (xs.map V.int) i = some (.int x) ∧ x ∈ xs := by
  obtain ⟨j, rfl⟩ := Int.eq_ofNat_of_zero_le h0
  have lj : j < xs.length := by omega
  exact ⟨xs[j], atI_nat (by rw [List.getElem?_map, List.getElem?_eq_getElem lj]; rfl), List.getElem_mem lj⟩
section
variable {P : Program} {w : World} {K : PySem.W.Frag} {mg : Str → Option Value} {base : Heap} {C CM CR : Addr}
/-! ### _law_drawn_limits -/
abbrev s__law_drawn_limits : Stmt := topS 52
abbrev N__law_drawn_limits : List Str := ["_law_numbers_here", "_law_at", "_law_plant_here", "_law_flows", "_law_limits", "_law_k", "_law_first", "_law_name", "_law_middle", "_law_low"]
theorem sc__law_drawn_limits : FnScope N__law_drawn_limits ["_law_numbers_here", "_law_at", "_law_plant_here", "_law_flows"] (defScope s__law_drawn_limits) := ⟨rfl, rfl, rfl, by decide +kernel, rfl, by decide +kernel, by decide +kernel⟩
/-- what the law draws from -/
structure Drawn (H : Hp) (na pp fl : Addr) (p : Pl) (f : Str → Int) : Prop where
  num : NumAt H na
  pl : LawPl H pp p
  fl : FlAt H fl p.ns f
  fine : Fine p
  few : p.ns.length ≤ 6
  bd : ∀ n ∈ p.ns, 0 ≤ f n ∧ f n ≤ 200
theorem Drawn.same {H H' : Hp} {na pp fl : Addr} {p : Pl} {f : Str → Int} (d : Drawn H na pp fl p f) (e : Same H H') : Drawn H' na pp fl p f := ⟨d.num.same e, d.pl.same e, d.fl.same e, d.fine, d.few, d.bd⟩
abbrev Small (l u : Int) : Prop := -1000 ≤ l ∧ l ≤ 1000 ∧ -1000 ≤ u ∧ u ≤ 1000
def spDrawn : Sp := fun vs H Q _ => ∃ (na pp fl : Addr) (p : Pl) (f : Str → Int), vs = [.ref na, .int 60, .ref pp, .ref fl] ∧ Drawn H na pp fl p f ∧
  ∀ H' r lo hi, Same H H' → H r = none → DTab H' r p.ns (limRow lo hi) → (∀ n ∈ p.ns, Small (lo n) (hi n)) → Q (.ref r) H'
theorem ok_law_drawn_limits (T : Txt K mg C CM CR) {f : Addr} {fd : FuncData} (D : DefIn K mg "_law_drawn_limits" s__law_drawn_limits f fd) : Cal P w K mg base 1 "_law_drawn_limits" spDrawn := by
  refine cal_of (N := N__law_drawn_limits) D (ps := ["_law_numbers_here", "_law_at", "_law_plant_here", "_law_flows"]) (fun _ _ _ _ _ _ us hl => match us, hl with | [_, _, _, _], _ => rfl) sc__law_drawn_limits (fun vs H Q E h => ?_) (fun cdv A outer s H vs Q E hr h => ?_)
  · obtain ⟨na, pp, fl, p, f, rfl, _⟩ := h
    rfl
  have hu := hu_of hr
  obtain ⟨na, pp, fl, p, f, rfl, d, q⟩ := h
  have n6 := d.few
  refine ⟨_, (pss_cons (ps_set (i := 4) sc__law_drawn_limits.nd rfl (by first | exact Or.inl rfl | exact Or.inr rfl) pe_dnewK)
      (pss_cons (ps_for PassesOwn.never rfl (pi_range1 (by rfl) T.range (pa_cons (pe_callB call_len_seq (by rfl) T.len (by decide +kernel) (pa_cons (pe_ix ix_tup (pv 2) pe_int (fun _ _ => rfl)) pa_nil)) pa_nil)) (pg_name (i := 5) sc__law_drawn_limits.nd rfl (by first | exact Or.inl rfl | exact Or.inr rfl))
      (pss_cons (ps_set (i := 6) sc__law_drawn_limits.nd rfl (by first | exact Or.inl rfl | exact Or.inr rfl) (pe_callTy call_int1 (by rfl) T.int (by decide +kernel) (pa_cons (pe_ix ix_list (pv 0) (pe_op op_add (pv 1) (pv 5)) (fun _ _ => rfl)) pa_nil)))
      (pss_cons (ps_set (i := 7) sc__law_drawn_limits.nd rfl (by first | exact Or.inl rfl | exact Or.inr rfl) (pe_ix ix_tup (pe_ix ix_list (pe_ix ix_tup (pv 2) pe_int (fun _ _ => rfl)) (pv 5) (fun _ _ => rfl)) pe_int (fun _ _ => rfl)))
      (pss_cut (ps_set (i := 8) sc__law_drawn_limits.nd rfl (by first | exact Or.inl rfl | exact Or.inr rfl) (pe_op op_add (pe_dget hu (pv 3) (pv 7) (fun _ _ => rfl)) (pe_op op_mul pe_int (pe_callTy call_int1 (by rfl) T.int (by decide +kernel) (pa_cons (pe_cmpR op_eq (pe_op op_mod (pe_callTy call_int1 (by rfl) T.int (by decide +kernel) (pa_cons (pv 6) pa_nil)) pe_int) pe_int (nomark _)) pa_nil)))))
      (pss_cons (ps_set (i := 9) sc__law_drawn_limits.nd rfl (by first | exact Or.inl rfl | exact Or.inr rfl) (pe_op op_sub (pv 8) (pe_op op_mod (pe_callTy call_int1 (by rfl) T.int (by decide +kernel) (pa_cons (pv 6) pa_nil)) pe_int)))
      (pss_one (ps_dput hu (pv 4) (pv 7) (pe_tup (pa_cons (pv 9) (pa_cons (pe_op op_sub (pe_op op_add (pv 8) (pe_op op_mod (pe_callTy call_int1 (by rfl) T.int (by decide +kernel) (pa_cons (pe_op op_fdiv (pv 6) pe_int) pa_nil)) pe_int)) (pe_op op_mul pe_int (pe_callTy call_int1 (by rfl) T.int (by decide +kernel) (pa_cons (pe_cmpR op_eq (pe_op op_mod (pe_callTy call_int1 (by rfl) T.int (by decide +kernel) (pa_cons (pv 6) pa_nil)) pe_int) pe_int (nomark _)) pa_nil)))) pa_nil))) rfl)))))))
      (pss_one (ps_ret (pv 4))))), ?_⟩
  refine fun li hli => ?_
  have s1 := same_upd (o := .dK []) hli
  obtain ⟨ka, sa, h1, h2, t, h3, h4⟩ := d.pl
  refine ⟨.ref pp, rfl, pp, _, 1, .ref sa, rfl, rfl, SqT.of (s1 _ _ h1), rfl, sa, _, rfl, .inl (SqL.of (s1 _ _ h3)), _, rfl, by omega, by rw [List.length_map]; omega, ?_⟩
  rw [List.length_map]
  refine for_range (fun i σ H' => ∃ (y5 y6 y7 y8 y9 : Option V) (row : Str → List V), σ = [some (.ref na), some (.int 60), some (.ref pp), some (.ref fl), some (.ref li), y5, y6, y7, y8, y9] ∧ Same H H' ∧ DTab H' li (p.ns.take i) row ∧ ∀ n ∈ p.ns.take i, ∃ l u, row n = [.int l, .int u] ∧ Small l u)
    ⟨_, _, _, _, _, fun _ => [], rfl, s1, DTab.start _ _ _, fun m h => (nomatch h)⟩ ?_ ?_
  · rintro i σ H5 hi ⟨y5, y6, y7, y8, y9, row, rfl, s5, ⟨tt, h5, ht5⟩, hrow⟩
    have il : i < p.ns.length := by
      have := hi
      omega
    obtain ⟨n, hn1⟩ : ∃ n, p.ns[i]? = some n := ⟨p.ns[i], List.getElem?_eq_getElem il⟩
    have mn := List.mem_of_getElem? hn1
    have an := ref_at (t := t) hn1
    have new := take_new d.fine.nd hn1
    have ek : p.ns.take (i + 1) = p.ns.take i ++ [n] := by rw [List.take_add_one, hn1]; rfl
    have t5 := s5 _ _ (h4 n mn)
    have fb := d.bd n mn
    obtain ⟨ys, e, ey, ex, e0, e1⟩ := (d.num.same s5).get (i := 60 + (0 + (i : Int))) (by omega) (by omega)
    refine ⟨.ref na, rfl, _, rfl, _, rfl, _, _, rfl, rfl, na, ys, _, _, rfl, rfl, SqL.of ey, ex, .inl ⟨_, rfl, ?_⟩⟩
    refine ⟨.ref pp, rfl, pp, _, 1, .ref sa, rfl, rfl, SqT.of (s5 _ _ h1), rfl, _, rfl, sa, _, _, .ref (t n), rfl, rfl, SqL.of (s5 _ _ h3), an, t n, _, 0, .str n, rfl, rfl, SqT.of t5, rfl, ?_⟩
    refine ⟨fun σ' H' => ∃ (mid : Int), σ' = [some (.ref na), some (.int 60), some (.ref pp), some (.ref fl), some (.ref li), some (.int (0 + (i : Int))), some (.int e), some (.str n), some (.int mid), y9] ∧ H5 = H' ∧ 0 ≤ mid ∧ mid ≤ 300, ?_, ?_⟩
    · refine ⟨.ref fl, rfl, _, rfl, fl, _, rfl, dget (Rd.of (s5 _ _ d.fl)) mn, _, rfl, .inl ⟨_, rfl, _, _, rfl, rfl, (by show (0 : Int) < 23; decide), rfl, .inr ⟨_, rfl, _, _, rfl, rfl, .inl (by decide), _, _, rfl, rfl, _, rfl, rfl, ?_, ?_⟩⟩⟩
      · split <;> omega
      · split <;> omega
    rintro σ _ ⟨mid, rfl, rfl, mid0, mid1⟩
    refine ⟨_, rfl, _, rfl, .inl ⟨_, rfl, _, _, rfl, rfl, (by show (0 : Int) < 5; decide), _, _, rfl, rfl, ?_⟩⟩
    refine ⟨_, rfl, _, rfl, _, rfl, _, _, rfl, rfl, ⟨by decide, by decide⟩, .inl ⟨_, rfl, _, _, rfl, rfl, (by show (0 : Int) < 5; decide), _, _, rfl, rfl, _, rfl, .inl ⟨_, rfl, _, _, rfl, rfl, (by show (0 : Int) < 97; decide), rfl, .inr ⟨_, rfl, _, _, rfl, rfl, .inl (by decide), _, _, rfl, rfl, (by show 2 ≤ sizeLine; decide), fun q1 hq1 => ?_⟩⟩⟩⟩
    have s6 := s5.trans (same_upd (o := .tup [.int (mid - e % 5), .int (mid + e / 5 % 5 - 9 * (if decide (V.int (e % 97) = V.int 11) = true then 1 else 0))]) hq1)
    refine ⟨.ref li, rfl, _, rfl, li, _, rfl, dputN (same_upd hq1 _ _ h5) new (by rw [List.length_take]; omega), ?_⟩
    refine ⟨_, _, _, _, _, rset row n [.int (mid - e % 5), .int (mid + e / 5 % 5 - 9 * (if decide (V.int (e % 97) = V.int 11) = true then 1 else 0))], rfl, s6.mut hli, ?_, ?_⟩
    · rw [ek]
      exact dtab_set h5 ht5 new hq1
    · rw [ek]
      refine rset_all (A := fun n r => ∃ l u, r = [.int l, .int u] ∧ Small l u) hrow ⟨_, _, rfl, by omega, by omega, ?_, ?_⟩
      · split <;> omega
      · split <;> omega
  · rintro σ H5 ⟨y5, y6, y7, y8, y9, row, rfl, s5, tab, hrow⟩
    have et : p.ns.take ((p.ns.length : Nat) : Int).toNat = p.ns := List.take_of_length_le (by omega)
    rw [et] at tab hrow
    obtain ⟨lo, hi, r1, r2⟩ := rows2 (A := fun _ l u => Small l u) hrow
    exact ⟨_, rfl, q H5 li lo hi s5 hli (tab.congr r1) r2⟩
/-! ### _law_narrow -/
abbrev s__law_narrow : Stmt := topS 59
abbrev N__law_narrow : List Str := ["_law_limits", "_law_numbers_here", "_law_at", "_law_found", "_law_names_here", "_law_k", "_law_low", "_law_high"]
theorem sc__law_narrow : FnScope N__law_narrow ["_law_limits", "_law_numbers_here", "_law_at"] (defScope s__law_narrow) := ⟨rfl, rfl, rfl, by decide +kernel, rfl, by decide +kernel, by decide +kernel⟩
def spNarrow : Sp := fun vs H Q _ => ∃ (li na : Addr) (ls : List Str) (lo hi : Str → Int), vs = [.ref li, .ref na, .int 75] ∧ NumAt H na ∧ DTab H li ls (limRow lo hi) ∧ ls.Nodup ∧ ls.length ≤ 6 ∧ (∀ n ∈ ls, Small (lo n) (hi n)) ∧
  ∀ H' r ys hi', Same H H' → H r = none → DTab H' r ys (limRow lo hi') → ys.Perm ls → (∀ n ∈ ls, Small (lo n) (hi' n) ∧ hi' n ≤ lo n + 2) → Q (.ref r) H'
theorem ok_law_narrow (T : Txt K mg C CM CR) {f : Addr} {fd : FuncData} (D : DefIn K mg "_law_narrow" s__law_narrow f fd) : Cal P w K mg base 1 "_law_narrow" spNarrow := by
  refine cal_of (N := N__law_narrow) D (ps := ["_law_limits", "_law_numbers_here", "_law_at"]) (fun _ _ _ _ _ _ us hl => match us, hl with | [_, _, _], _ => rfl) sc__law_narrow (fun vs H Q E h => ?_) (fun cdv A outer s H vs Q E hr h => ?_)
  · obtain ⟨li, na, ls, lo, hi, rfl, _⟩ := h
    rfl
  have hu := hu_of hr
  obtain ⟨li, na, ls, lo, hi, rfl, hn, ⟨t, h1, h2⟩, nd, l6, sm, q⟩ := h
  refine ⟨_, (pss_cons (ps_set (i := 3) sc__law_narrow.nd rfl (by first | exact Or.inl rfl | exact Or.inr rfl) pe_dnewK)
      (pss_cons (ps_set (i := 4) sc__law_narrow.nd rfl (by first | exact Or.inl rfl | exact Or.inr rfl) (pe_callB (call_sortedD rfl) (by rfl) T.sorted (by decide +kernel) (pa_cons (pv 0) pa_nil)))
      (pss_cons (ps_for PassesOwn.never rfl (pi_range1 (by rfl) T.range (pa_cons (pe_callB call_len_seq (by rfl) T.len (by decide +kernel) (pa_cons (pv 4) pa_nil)) pa_nil)) (pg_name (i := 5) sc__law_narrow.nd rfl (by first | exact Or.inl rfl | exact Or.inr rfl))
      (pss_cons (ps_asg (pe_dget hu (pv 0) (pe_ix ix_list (pv 4) (pv 5) (fun _ _ => rfl)) (fun _ _ => rfl)) (pg_tup (by rfl) (pgs_cons (pg_name (i := 6) sc__law_narrow.nd rfl (by first | exact Or.inl rfl | exact Or.inr rfl)) (pgs_cons (pg_name (i := 7) sc__law_narrow.nd rfl (by first | exact Or.inl rfl | exact Or.inr rfl)) pgs_nil))))
      (pss_one (ps_dput hu (pv 3) (pe_ix ix_list (pv 4) (pv 5) (fun _ _ => rfl)) (pe_tup (pa_cons (pv 6) (pa_cons (pe_callB (call_min2 rfl) (by rfl) T.min (by decide +kernel) (pa_cons (pv 7) (pa_cons (pe_op op_add (pv 6) (pe_op op_mod (pe_callTy call_int1 (by rfl) T.int (by decide +kernel) (pa_cons (pe_ix ix_list (pv 1) (pe_op op_add (pv 2) (pv 5)) (fun _ _ => rfl)) pa_nil)) pe_int)) pa_nil))) pa_nil))) rfl))))
      (pss_one (ps_ret (pv 3)))))), ?_⟩
  refine fun fo hfo => ?_
  have s1 := same_upd (o := .dK []) hfo
  refine ⟨.ref li, rfl, li, _, ls, rfl, Rd.of (s1 _ _ h1), kvs_keys _ _, by omega, fun ys qa py sy hqa => ?_⟩
  have s2 := s1.trans (same_upd (o := .lst (ys.map V.str)) hqa)
  have hfo2 := same_upd (o := .lst (ys.map V.str)) hqa _ _ (upd_same : upd H fo (.dK []) fo = _)
  have ndy : ys.Nodup := py.nodup_iff.mpr nd
  have y6 : ys.length ≤ 6 := by
    rw [py.length_eq]
    exact l6
  have qafo : qa ≠ fo := (ne_of_none upd_same hqa).symm
  refine ⟨.ref qa, rfl, qa, _, rfl, .inl (SqL.of upd_same), _, rfl, by omega, by rw [List.length_map]; omega, ?_⟩
  rw [List.length_map]
  refine for_range (fun i σ H' => ∃ (y5 y6 y7 : Option V) (hi' : Str → Int), σ = [some (.ref li), some (.ref na), some (.int 75), some (.ref fo), some (.ref qa), y5, y6, y7] ∧ Same H H' ∧ H' qa = some (.lst (ys.map V.str)) ∧ DTab H' fo (ys.take i) (limRow lo hi') ∧ ∀ n ∈ ys.take i, Small (lo n) (hi' n) ∧ hi' n ≤ lo n + 2)
    ⟨_, _, _, fun _ => 0, rfl, s2, upd_same, ⟨fun _ => 0, hfo2, fun m h => (nomatch h)⟩, fun m h => (nomatch h)⟩ ?_ ?_
  · rintro i σ H5 hi0 ⟨y5, y6, y7, hi', rfl, s5, hqa5, ⟨tt, h5, ht5⟩, hrow⟩
    have il : i < ys.length := by
      have := hi0
      omega
    obtain ⟨n, hn1⟩ : ∃ n, ys[i]? = some n := ⟨ys[i], List.getElem?_eq_getElem il⟩
    have my := List.mem_of_getElem? hn1
    have mn := py.mem_iff.mp my
    have an : atI (ys.map V.str) (0 + (i : Int)) = some (.str n) := by
      rw [Int.zero_add]
      exact atI_nat (by rw [List.getElem?_map, hn1]; rfl)
    have new := take_new ndy hn1
    have ek : ys.take (i + 1) = ys.take i ++ [n] := by rw [List.take_add_one, hn1]; rfl
    have b := sm n mn
    refine ⟨.ref li, rfl, .ref qa, rfl, _, rfl, qa, _, _, .str n, rfl, rfl, SqL.of hqa5, an, li, _, rfl, dget (Rd.of (s5 _ _ h1)) mn, t n, _, rfl, SqT.of (s5 _ _ (h2 n mn)), rfl, _, _, rfl, _, _, rfl, rfl, ?_⟩
    obtain ⟨zs, e, ey, ex, e0, e1⟩ := (hn.same s5).get (i := 75 + (0 + (i : Int))) (by omega) (by omega)
    refine ⟨_, rfl, _, rfl, _, rfl, .ref na, rfl, _, rfl, _, rfl, _, _, rfl, rfl, na, zs, _, _, rfl, rfl, SqL.of ey, ex, .inl ⟨_, rfl, _, _, rfl, rfl, (by show (0 : Int) < 3; decide), _, _, rfl, rfl, _, _, rfl, (by show 2 ≤ sizeLine; decide), fun q1 hq1 => ?_⟩⟩
    have sm1 := same_upd (o := .tup [.int (lo n), .int (if lo n + e % 3 < hi n then lo n + e % 3 else hi n)]) hq1
    have s6 := s5.trans sm1
    have qafo5 : qa ≠ fo := qafo
    refine ⟨.ref fo, rfl, .ref qa, rfl, _, rfl, qa, _, _, .str n, rfl, rfl, SqL.of (sm1 _ _ hqa5), an, fo, _, rfl, dputN (sm1 _ _ h5) new (by rw [List.length_take]; omega), ?_⟩
    have e1' : [V.int (lo n), V.int (if lo n + e % 3 < hi n then lo n + e % 3 else hi n)] = limRow lo (fset hi' n (if lo n + e % 3 < hi n then lo n + e % 3 else hi n)) n := by
      unfold limRow
      rw [fset_same]
    refine ⟨_, _, _, fset hi' n (if lo n + e % 3 < hi n then lo n + e % 3 else hi n), rfl, s6.mut hfo, ?_, ?_, fun m hm => ?_⟩
    · rw [upd_ne qafo]
      exact sm1 _ _ hqa5
    · rw [ek]
      have dt := dtab_put (row := limRow lo (fset hi' n (if lo n + e % 3 < hi n then lo n + e % 3 else hi n))) h5 (fun m hm => ?_) new hq1
      · rw [← e1'] at dt
        exact dt
      · have ne : m ≠ n := fun z => new (z ▸ hm)
        have := ht5 m hm
        unfold limRow at this ⊢
        rw [fset_ne _ _ ne]
        exact this
    · by_cases c : m = n
      · subst c
        rw [fset_same]
        refine ⟨⟨b.1, b.2.1, ?_, ?_⟩, ?_⟩ <;> split <;> omega
      · rw [ek] at hm
        rw [fset_ne _ _ c]
        exact hrow m ((List.mem_append.mp hm).elim id fun x => absurd (List.mem_singleton.mp x) c)
  · rintro σ H5 ⟨y5, y6, y7, hi', rfl, s5, hqa5, tab, hrow⟩
    have et : ys.take ((ys.length : Nat) : Int).toNat = ys := List.take_of_length_le (by omega)
    rw [et] at tab hrow
    exact ⟨_, rfl, q H5 fo ys hi' s5 hfo tab py fun n h => hrow n (py.mem_iff.mpr h)⟩
/-! ### _law_readings -/
abbrev s__law_readings : Stmt := topS 53
abbrev N__law_readings : List Str := ["_law_numbers_here", "_law_at", "_law_plant_here", "_law_flows", "_law_readings_here", "_law_k", "_law_first", "_law_name", "_law_near"]
theorem sc__law_readings : FnScope N__law_readings ["_law_numbers_here", "_law_at", "_law_plant_here", "_law_flows"] (defScope s__law_readings) := ⟨rfl, rfl, rfl, by decide +kernel, rfl, by decide +kernel, by decide +kernel⟩
def spLRead : Sp := fun vs H Q _ => ∃ (na pp fl : Addr) (p : Pl) (f : Str → Int), vs = [.ref na, .int 95, .ref pp, .ref fl] ∧ Drawn H na pp fl p f ∧
  ∀ H' r lr nu to, Same H H' → H r = none → LimAt H' r lr nu to → RdgOk p lr nu to → Q (.ref r) H'
theorem ok_law_readings (T : Txt K mg C CM CR) {f : Addr} {fd : FuncData} (D : DefIn K mg "_law_readings" s__law_readings f fd) : Cal P w K mg base 1 "_law_readings" spLRead := by
  refine cal_of (N := N__law_readings) D (ps := ["_law_numbers_here", "_law_at", "_law_plant_here", "_law_flows"]) (fun _ _ _ _ _ _ us hl => match us, hl with | [_, _, _, _], _ => rfl) sc__law_readings (fun vs H Q E h => ?_) (fun cdv A outer s H vs Q E hr h => ?_)
  · obtain ⟨na, pp, fl, p, f, rfl, _⟩ := h
    rfl
  have hu := hu_of hr
  obtain ⟨na, pp, fl, p, f, rfl, d, q⟩ := h
  have n6 := d.few
  refine ⟨_, (pss_cons (ps_set (i := 4) sc__law_readings.nd rfl (by first | exact Or.inl rfl | exact Or.inr rfl) pe_dnewK)
      (pss_cons (ps_for PassesOwn.never rfl (pi_range1 (by rfl) T.range (pa_cons (pe_callB call_len_seq (by rfl) T.len (by decide +kernel) (pa_cons (pe_ix ix_tup (pv 2) pe_int (fun _ _ => rfl)) pa_nil)) pa_nil)) (pg_name (i := 5) sc__law_readings.nd rfl (by first | exact Or.inl rfl | exact Or.inr rfl))
      (pss_cons (ps_set (i := 6) sc__law_readings.nd rfl (by first | exact Or.inl rfl | exact Or.inr rfl) (pe_callTy call_int1 (by rfl) T.int (by decide +kernel) (pa_cons (pe_ix ix_list (pv 0) (pe_op op_add (pv 1) (pv 5)) (fun _ _ => rfl)) pa_nil)))
      (pss_cons (ps_set (i := 7) sc__law_readings.nd rfl (by first | exact Or.inl rfl | exact Or.inr rfl) (pe_ix ix_tup (pe_ix ix_list (pe_ix ix_tup (pv 2) pe_int (fun _ _ => rfl)) (pv 5) (fun _ _ => rfl)) pe_int (fun _ _ => rfl)))
      (pss_one (ps_if (pt_cmpR op_gt (pe_op op_mod (pe_callTy call_int1 (by rfl) T.int (by decide +kernel) (pa_cons (pv 6) pa_nil)) pe_int) pe_int (nomark _)) (pss_cons (ps_set (i := 8) sc__law_readings.nd rfl (by first | exact Or.inl rfl | exact Or.inr rfl) (pe_ix ix_list (pe_lst (pa_cons pe_int (pa_cons pe_int (pa_cons pe_int (pa_cons pe_int (pa_cons (pe_un un_neg pe_int) (pa_cons pe_int (pa_cons pe_int pa_nil)))))))) (pe_op op_mod (pe_callTy call_int1 (by rfl) T.int (by decide +kernel) (pa_cons (pe_op op_fdiv (pv 6) pe_int) pa_nil)) pe_int) (fun _ _ => rfl)))
      (pss_one (ps_dput hu (pv 4) (pv 7) (pe_tup (pa_cons (pe_callB (call_max2 rfl) (by rfl) T.max (by decide +kernel) (pa_cons pe_int (pa_cons (pe_op op_add (pe_dget hu (pv 3) (pv 7) (fun _ _ => rfl)) (pv 8)) pa_nil))) (pa_cons (pe_ix ix_list (pe_lst (pa_cons pe_int (pa_cons pe_int (pa_cons pe_int (pa_cons pe_int (pa_cons pe_int pa_nil)))))) (pe_op op_mod (pe_callTy call_int1 (by rfl) T.int (by decide +kernel) (pa_cons (pe_op op_fdiv (pv 6) pe_int) pa_nil)) pe_int) (fun _ _ => rfl)) pa_nil))) rfl))) pss_nil)))))
      (pss_one (ps_ret (pv 4))))), ?_⟩
  refine fun li hli => ?_
  have s1 := same_upd (o := .dK []) hli
  obtain ⟨ka, sa, h1, h2, t, h3, h4⟩ := d.pl
  let A : Int → Int → Prop := fun l u => 0 ≤ l ∧ l ≤ 1000000 ∧ 0 ≤ u ∧ u ≤ 1000000
  refine ⟨.ref pp, rfl, pp, _, 1, .ref sa, rfl, rfl, SqT.of (s1 _ _ h1), rfl, sa, _, rfl, .inl (SqL.of (s1 _ _ h3)), _, rfl, by omega, by rw [List.length_map]; omega, ?_⟩
  rw [List.length_map]
  refine for_range (fun i σ H' => ∃ (y5 y6 y7 y8 : Option V) (lr : List Str) (row : Str → List V), σ = [some (.ref na), some (.int 95), some (.ref pp), some (.ref fl), some (.ref li), y5, y6, y7, y8] ∧ Same H H' ∧ DTab H' li lr row ∧ (∀ n ∈ lr, n ∈ p.ns.take i) ∧ lr.length ≤ i ∧ ∀ n ∈ lr, ∃ l u, row n = [.int l, .int u] ∧ A l u)
    ⟨_, _, _, _, [], fun _ => [], rfl, s1, DTab.start _ _ _, fun m h => (nomatch h), Nat.le_refl _, fun m h => (nomatch h)⟩ ?_ ?_
  · rintro i σ H5 hi ⟨y5, y6, y7, y8, lr, row, rfl, s5, ⟨tt, h5, ht5⟩, sub, lrl, hrow⟩
    have il : i < p.ns.length := by
      have := hi
      omega
    obtain ⟨n, hn1⟩ : ∃ n, p.ns[i]? = some n := ⟨p.ns[i], List.getElem?_eq_getElem il⟩
    have mn := List.mem_of_getElem? hn1
    have an := ref_at (t := t) hn1
    have ek : p.ns.take (i + 1) = p.ns.take i ++ [n] := by rw [List.take_add_one, hn1]; rfl
    have new : n ∉ lr := fun z => take_new d.fine.nd hn1 (sub n z)
    have t5 := s5 _ _ (h4 n mn)
    have fb := d.bd n mn
    obtain ⟨ys, e, ey, ex, e0, e1⟩ := (d.num.same s5).get (i := 95 + (0 + (i : Int))) (by omega) (by omega)
    refine ⟨.ref na, rfl, _, rfl, _, rfl, _, _, rfl, rfl, na, ys, _, _, rfl, rfl, SqL.of ey, ex, .inl ⟨_, rfl, ?_⟩⟩
    refine ⟨.ref pp, rfl, pp, _, 1, .ref sa, rfl, rfl, SqT.of (s5 _ _ h1), rfl, _, rfl, sa, _, _, .ref (t n), rfl, rfl, SqL.of (s5 _ _ h3), an, t n, _, 0, .str n, rfl, rfl, SqT.of t5, rfl, ?_⟩
    refine ⟨_, rfl, .inl ⟨_, rfl, _, _, rfl, rfl, (by show (0 : Int) < 5; decide), _, _, rfl, rfl, _, rfl, ite2 (fun _ => ?_) fun _ => ?_⟩⟩
    · obtain ⟨z, az, mz⟩ := int_at (xs := [0, 0, 0, 1, -1, 0, 4]) (i := e / 5 % 7) (by omega) (by show e / 5 % 7 < 7; omega)
      have bz : -1 ≤ z ∧ z ≤ 4 := by
        simp only [List.mem_cons, List.not_mem_nil, or_false] at mz
        omega
      obtain ⟨y, ay, my⟩ := int_at (xs := [0, 0, 1, 2, 4]) (i := e / 35 % 5) (by omega) (by show e / 35 % 5 < 5; omega)
      have by_ : 0 ≤ y ∧ y ≤ 4 := by
        simp only [List.mem_cons, List.not_mem_nil, or_false] at my
        omega
      refine ⟨1, rfl, (by show 7 ≤ sizeLine; decide), fun q1 hq1 => ⟨_, rfl, _, _, rfl, rfl, ⟨by decide, by decide⟩, .inl ⟨_, rfl, _, _, rfl, rfl, (by show (0 : Int) < 7; decide), q1, _, _, .int z, rfl, rfl, SqL.of upd_same, az, ?_⟩⟩⟩
      have sm1 := same_upd (o := .lst [.int 0, .int 0, .int 0, .int 1, .int (-1), .int 0, .int 4]) hq1
      refine ⟨.ref fl, rfl, _, rfl, fl, _, rfl, dget (Rd.of (sm1 _ _ (s5 _ _ d.fl))) mn, _, rfl, _, _, rfl, rfl, _, _, rfl, (by show 5 ≤ sizeLine; decide), fun q2 hq2 => ⟨_, rfl, _, _, rfl, rfl, ⟨by decide, by decide⟩, .inl ⟨_, rfl, _, _, rfl, rfl, (by show (0 : Int) < 5; decide), q2, _, _, .int y, rfl, rfl, SqL.of upd_same, ay, (by show 2 ≤ sizeLine; decide), fun q3 hq3 => ?_⟩⟩⟩
      have sm2 := sm1.trans (same_upd (o := .lst [.int 0, .int 0, .int 1, .int 2, .int 4]) hq2)
      have sm3 := sm2.trans (same_upd (o := .tup [.int (if f n + z > 0 then f n + z else 0), .int y]) hq3)
      refine ⟨.ref li, rfl, _, rfl, li, _, rfl, dputN (sm3 _ _ h5) new (by omega), ?_⟩
      refine ⟨_, _, _, _, lr ++ [n], rset row n [.int (if f n + z > 0 then f n + z else 0), .int y], rfl, (s5.trans sm3).mut hli, ?_, fun m hm => ?_, ?_, ?_⟩
      · exact dtab_set (sm2 _ _ h5) (fun m hm => sm2 _ _ (ht5 m hm)) new hq3
      · rw [ek]
        exact List.mem_append.mpr ((List.mem_append.mp hm).imp (sub m) id)
      · rw [List.length_append]
        show lr.length + 1 ≤ _
        omega
      · refine rset_all (A := fun n r => ∃ l u, r = [.int l, .int u] ∧ A l u) hrow ⟨_, _, rfl, ?_, ?_, by_.1, by omega⟩
        · split <;> omega
        · split <;> omega
    · refine ⟨_, _, _, _, lr, row, rfl, s5, ⟨tt, h5, ht5⟩, fun m hm => ?_, by omega, hrow⟩
      rw [ek]
      exact List.mem_append_left _ (sub m hm)
  · rintro σ H5 ⟨y5, y6, y7, y8, lr, row, rfl, s5, tab, sub, lrl, hrow⟩
    obtain ⟨nu, to, r1, r2⟩ := rows2 (A := fun _ l u => A l u) hrow
    exact ⟨_, rfl, q H5 li lr nu to s5 hli (tab.congr (row' := limRow nu to) r1).limits ⟨fun m hm => List.mem_of_mem_take (sub m hm), by omega, r2⟩⟩
/-! ### _law_limits_of -/
abbrev s__law_limits_of : Stmt := topS 54
abbrev N__law_limits_of : List Str := ["_law_plant_here", "_law_readings_here", "_law_limits", "_law_name", "_law_tail", "_law_head", "_law_low", "_law_high", "_law_number", "_law_tolerance"]
theorem sc__law_limits_of : FnScope N__law_limits_of ["_law_plant_here", "_law_readings_here"] (defScope s__law_limits_of) := ⟨rfl, rfl, rfl, by decide +kernel, rfl, by decide +kernel, by decide +kernel⟩
def spLLimOf : Sp := fun vs H Q _ => ∃ (pp ra : Addr) (p : Pl) (lr : List Str) (nu to : Str → Int), vs = [.ref pp, .ref ra] ∧ LawPl H pp p ∧ PlOk p ∧ LimAt H ra lr nu to ∧
  ∀ H' r, Same H H' → H r = none → DTab H' r p.ns (limRow (rLo p lr nu to) (rHi p lr nu to)) → Q (.ref r) H'
theorem ok_law_limits_of (T : Txt K mg C CM CR) {f : Addr} {fd : FuncData} (D : DefIn K mg "_law_limits_of" s__law_limits_of f fd) : Cal P w K mg base 1 "_law_limits_of" spLLimOf := by
  refine cal_of (N := N__law_limits_of) D (ps := ["_law_plant_here", "_law_readings_here"]) (fun _ _ _ _ _ _ us hl => match us, hl with | [_, _], _ => rfl) sc__law_limits_of (fun vs H Q E h => ?_) (fun cdv A outer s H vs Q E hr h => ?_)
  · obtain ⟨pp, ra, p, lr, nu, to, rfl, _⟩ := h
    rfl
  have hu := hu_of hr
  obtain ⟨pp, ra, p, lr, nu, to, rfl, ⟨ka, sa, h1, h2, t, h3, h4⟩, F, hl, q⟩ := h
  have n24 := F.nl
  refine ⟨_, (pss_cons (ps_set (i := 2) sc__law_limits_of.nd rfl (by first | exact Or.inl rfl | exact Or.inr rfl) pe_dnewK)
      (pss_cons (ps_for PassesOwn.never rfl (pi_list (pe_ix ix_tup (pv 0) pe_int (fun _ _ => rfl))) (pg_tup (by rfl) (pgs_cons (pg_name (i := 3) sc__law_limits_of.nd rfl (by first | exact Or.inl rfl | exact Or.inr rfl)) (pgs_cons (pg_name (i := 4) sc__law_limits_of.nd rfl (by first | exact Or.inl rfl | exact Or.inr rfl)) (pgs_cons (pg_name (i := 5) sc__law_limits_of.nd rfl (by first | exact Or.inl rfl | exact Or.inr rfl)) (pgs_cons (pg_name (i := 6) sc__law_limits_of.nd rfl (by first | exact Or.inl rfl | exact Or.inr rfl)) (pgs_cons (pg_name (i := 7) sc__law_limits_of.nd rfl (by first | exact Or.inl rfl | exact Or.inr rfl)) pgs_nil))))))
      (pss_cons (ps_if (pt_cmp (pc_din hu (pv 3) (pv 1))) (pss_cons (ps_asg (pe_dget hu (pv 1) (pv 3) (fun _ _ => rfl)) (pg_tup (by rfl) (pgs_cons (pg_name (i := 8) sc__law_limits_of.nd rfl (by first | exact Or.inl rfl | exact Or.inr rfl)) (pgs_cons (pg_name (i := 9) sc__law_limits_of.nd rfl (by first | exact Or.inl rfl | exact Or.inr rfl)) pgs_nil))))
      (pss_one (ps_par (i := 6) (j := 7) (by rfl) sc__law_limits_of.nd rfl rfl (by decide) rfl rfl (pa_cons (pe_callB (call_max2 rfl) (by rfl) T.max (by decide +kernel) (pa_cons (pv 6) (pa_cons (pe_op op_sub (pv 8) (pv 9)) pa_nil))) (pa_cons (pe_callB (call_min2 rfl) (by rfl) T.min (by decide +kernel) (pa_cons (pv 7) (pa_cons (pe_op op_add (pv 8) (pv 9)) pa_nil))) pa_nil)) (by rfl)))) pss_nil)
      (pss_one (ps_dput hu (pv 2) (pv 3) (pe_tup (pa_cons (pv 6) (pa_cons (pv 7) pa_nil))) rfl))))
      (pss_one (ps_ret (pv 2))))), ?_⟩
  refine fun fo hfo => ?_
  have s1 := same_upd (o := .dK []) hfo
  let row : Str → List V := limRow (rLo p lr nu to) (rHi p lr nu to)
  refine ⟨.ref pp, rfl, pp, _, 1, .ref sa, rfl, rfl, SqT.of (s1 _ _ h1), rfl, sa, rfl, ⟨_, SqL.of (s1 _ _ h3)⟩, ?_⟩
  refine for_list (K := K) (a := sa) (xs := p.ns.map fun n => V.ref (t n)) (fun i σ H' => ∃ y3 y4 y5 y6 y7 y8 y9, σ = [some (.ref pp), some (.ref ra), some (.ref fo), y3, y4, y5, y6, y7, y8, y9] ∧ Same H H' ∧ DTab H' fo (p.ns.take i) row) ⟨none, none, none, none, none, none, none, rfl, s1, DTab.start _ _ _⟩ (fun i σ H' _ z => ?_) ?_ ?_
  · obtain ⟨_, _, _, _, _, _, _, _, s, _⟩ := z
    exact SqL.of (s _ _ h3)
  · rintro i v σ H4 hv ⟨y3, y4, y5, y6, y7, y8, y9, rfl, s4, tf, h4', ht4⟩
    obtain ⟨n, rfl, hn⟩ := get_map hv
    have mn := List.mem_of_getElem? hn
    have new := take_new F.nd hn
    have tn4 := s4 _ _ (h4 n mn)
    obtain ⟨tr, rd, htr⟩ := hl.same s4
    have tl : (p.ns.take i).length < 1000 := by
      rw [List.length_take]
      omega
    have ek : p.ns.take (i + 1) = p.ns.take i ++ [n] := by rw [List.take_add_one, hn]; rfl
    refine ⟨t n, _, rfl, SqT.of tn4, rfl, _, _, rfl, _, _, rfl, _, _, rfl, _, _, rfl, _, _, rfl, rfl, ?_⟩
    refine ⟨_, rfl, .ref ra, rfl, ra, _, rfl, dgetO rd, _, rfl, ?_⟩
    rw [val_some]
    by_cases c : n ∈ lr
    · rw [decide_eq_true c]
      refine iteT ⟨.ref ra, rfl, _, rfl, ra, _, rfl, dget rd c, tr n, _, rfl, SqT.of (htr n c), rfl, _, _, rfl, _, _, rfl, rfl, ?_⟩
      refine ⟨_, rfl, _, rfl, _, rfl, _, _, rfl, rfl, _, _, rfl, _, rfl, _, rfl, _, rfl, _, _, rfl, rfl, _, _, rfl, _, _, rfl, ?_⟩
      refine ⟨_, rfl, _, rfl, by show 2 ≤ sizeLine; decide, fun q5 hq5 => ?_⟩
      have er : [V.int (if nu n - to n > p.bl n then nu n - to n else p.bl n), V.int (if nu n + to n < p.bh n then nu n + to n else p.bh n)] = row n := by
        show _ = [V.int (rLo p lr nu to n), V.int (rHi p lr nu to n)]
        unfold rLo rHi
        rw [if_pos c, if_pos c]
      rw [er]
      have s5 := same_upd (o := .tup (row n)) hq5
      refine ⟨.ref fo, rfl, _, rfl, fo, _, rfl, dputN (s5 _ _ h4') new tl, _, _, _, _, _, _, _, rfl, (s4.trans s5).mut hfo, ?_⟩
      rw [ek]
      exact dtab_put h4' ht4 new hq5
    · rw [decide_eq_false c]
      refine iteF ?_
      refine ⟨_, rfl, _, rfl, by show 2 ≤ sizeLine; decide, fun q5 hq5 => ?_⟩
      have er : [V.int (p.bl n), V.int (p.bh n)] = row n := by
        show _ = [V.int (rLo p lr nu to n), V.int (rHi p lr nu to n)]
        unfold rLo rHi
        rw [if_neg c, if_neg c]
      rw [er]
      have s5 := same_upd (o := .tup (row n)) hq5
      refine ⟨.ref fo, rfl, _, rfl, fo, _, rfl, dputN (s5 _ _ h4') new tl, _, _, _, _, _, _, _, rfl, (s4.trans s5).mut hfo, ?_⟩
      rw [ek]
      exact dtab_put h4' ht4 new hq5
  · rintro σ H4 ⟨y3, y4, y5, y6, y7, y8, y9, rfl, s4, tab⟩
    rw [List.length_map, List.take_length] at tab
    exact ⟨_, rfl, q H4 fo s4 hfo tab⟩
end
end Ms
set_option Elab.async false
set_option linter.all false
set_option maxRecDepth 100000
set_option maxHeartbeats 4000000
/-! The law's own search: all flows within limits, the balanced ones, the numbers of each stream. -/
namespace Ms
open PySem PySem.Spec PyProof.Rows L2
section
variable {P : Program} {w : World} {K : PySem.W.Frag} {mg : Str → Option Value} {base : Heap} {C CM CR : Addr}
/-! ### _law_left -/
abbrev s__law_left : Stmt := topS 55
abbrev N__law_left : List Str := ["_law_plant_here", "_law_flows", "_law_left_here", "_law_knot", "_law_name", "_law_tail", "_law_head", "_law_low", "_law_high"]
theorem sc__law_left : FnScope N__law_left ["_law_plant_here", "_law_flows"] (defScope s__law_left) := ⟨rfl, rfl, rfl, by decide +kernel, rfl, by decide +kernel, by decide +kernel⟩
def spLLeft : Sp := fun vs H Q _ => ∃ (pp fl : Addr) (p : Pl) (ls : List Str) (f : Str → Int), vs = [.ref pp, .ref fl] ∧ LawPl H pp p ∧ PlOk p ∧ FlAt H fl ls f ∧ (∀ n ∈ p.ns, n ∈ ls) ∧ ∀ H' r, Same H H' → H r = none → H' r = some (.dK (kvs p.ks (gI (net p.tl p.hd p.ns f)))) → Q (.ref r) H'
theorem ok_law_left (T : Txt K mg C CM CR) {f : Addr} {fd : FuncData} (D : DefIn K mg "_law_left" s__law_left f fd) : Cal P w K mg base 1 "_law_left" spLLeft := by
  refine cal_of (N := N__law_left) D (ps := ["_law_plant_here", "_law_flows"]) (fun _ _ _ _ _ _ us hl => match us, hl with | [_, _], _ => rfl) sc__law_left (fun vs H Q E h => ?_) (fun cdv A outer s H vs Q E hr h => ?_)
  · obtain ⟨pp, fl, p, ls, f, rfl, _⟩ := h
    rfl
  have hu := hu_of hr
  obtain ⟨pp, fl, p, ls, f, rfl, ⟨ka, sa, h1, h2, t, h3, h4⟩, F, hf, sub, q⟩ := h
  have kl : p.ks.length < 1000 := by have := F.kl; omega
  refine ⟨_, (pss_cons (ps_set (i := 2) sc__law_left.nd rfl (by first | exact Or.inl rfl | exact Or.inr rfl) pe_dnewK)
      (pss_cons (ps_for PassesOwn.never rfl (pi_list (pe_ix ix_tup (pv 0) pe_int (fun _ _ => rfl))) (pg_name (i := 3) sc__law_left.nd rfl (by first | exact Or.inl rfl | exact Or.inr rfl))
      (pss_one (ps_dput hu (pv 2) (pv 3) pe_int rfl)))
      (pss_cons (ps_for PassesOwn.never rfl (pi_list (pe_ix ix_tup (pv 0) pe_int (fun _ _ => rfl))) (pg_tup (by rfl) (pgs_cons (pg_name (i := 4) sc__law_left.nd rfl (by first | exact Or.inl rfl | exact Or.inr rfl)) (pgs_cons (pg_name (i := 5) sc__law_left.nd rfl (by first | exact Or.inl rfl | exact Or.inr rfl)) (pgs_cons (pg_name (i := 6) sc__law_left.nd rfl (by first | exact Or.inl rfl | exact Or.inr rfl)) (pgs_cons (pg_name (i := 7) sc__law_left.nd rfl (by first | exact Or.inl rfl | exact Or.inr rfl)) (pgs_cons (pg_name (i := 8) sc__law_left.nd rfl (by first | exact Or.inl rfl | exact Or.inr rfl)) pgs_nil))))))
      (pss_cons (ps_dput hu (pv 2) (pv 5) (pe_op op_sub (pe_dget hu (pv 2) (pv 5) (fun _ _ => rfl)) (pe_dget hu (pv 1) (pv 4) (fun _ _ => rfl))) rfl)
      (pss_one (ps_dput hu (pv 2) (pv 6) (pe_op op_add (pe_dget hu (pv 2) (pv 6) (fun _ _ => rfl)) (pe_dget hu (pv 1) (pv 4) (fun _ _ => rfl))) rfl))))
      (pss_one (ps_ret (pv 2)))))), ?_⟩
  refine fun D hD => ?_
  have s1 := same_upd (o := .dK []) hD
  refine ⟨.ref pp, rfl, pp, _, 0, .ref ka, rfl, rfl, SqT.of (s1 _ _ h1), rfl, ka, rfl, ⟨_, SqL.of (s1 _ _ h2)⟩, ?_⟩
  refine for_list (K := K) (a := ka) (xs := p.ks.map V.str) (fun i σ H' => ∃ y3, σ = [some (.ref pp), some (.ref fl), some (.ref D), y3, none, none, none, none, none] ∧ Same H H' ∧ FlAt H' D (p.ks.take i) fun _ => 0) ⟨none, rfl, s1, upd_same⟩ (fun i σ H' _ z => ?_) ?_ ?_
  · obtain ⟨_, _, s, _⟩ := z
    exact SqL.of (s _ _ h2)
  · rintro i v σ H2 hv ⟨y3, rfl, s2, hd2⟩
    obtain ⟨k, rfl, hk⟩ := get_str hv
    have new := take_new F.kd hk
    refine ⟨.ref D, rfl, _, rfl, D, _, rfl, dputN hd2 new (by rw [List.length_take]; omega), _, rfl, s2.mut hD, ?_⟩
    unfold FlAt
    rw [upd_same, List.take_add_one, hk, gI_set]
    refine congrArg (fun z => some (HO.dK z)) (kvs_congr fun m _ => ?_)
    unfold gI fset
    split <;> rfl
  rintro σ H2 ⟨y3, rfl, s2, hd2⟩
  rw [List.length_map, List.take_length] at hd2
  refine ⟨.ref pp, rfl, pp, _, 1, .ref sa, rfl, rfl, SqT.of (s2 _ _ h1), rfl, sa, rfl, ⟨_, SqL.of (s2 _ _ h3)⟩, ?_⟩
  refine for_list (K := K) (a := sa) (xs := p.ns.map fun n => V.ref (t n)) (fun i σ H' => ∃ y3 y4 y5 y6 y7 y8, σ = [some (.ref pp), some (.ref fl), some (.ref D), y3, y4, y5, y6, y7, y8] ∧ Same H H' ∧ FlAt H' D p.ks (net p.tl p.hd (p.ns.take i) f)) ⟨_, _, _, _, _, _, rfl, s2, hd2⟩ (fun i σ H' _ z => ?_) ?_ ?_
  · obtain ⟨_, _, _, _, _, _, _, s, _⟩ := z
    exact SqL.of (s _ _ h3)
  · rintro i v σ H3 hv ⟨y3, y4, y5, y6, y7, y8, rfl, s3, h5⟩
    obtain ⟨n, rfl, hn⟩ := get_map hv
    have mn := List.mem_of_getElem? hn
    have mt := (F.ends n mn).1
    have mh := (F.ends n mn).2
    have ml := sub n mn
    have rd3 := s3 _ _ hf
    have fD : fl ≠ D := ne_of_none hf hD
    refine ⟨t n, _, rfl, SqT.of (s3 _ _ (h4 n mn)), rfl, _, _, rfl, _, _, rfl, _, _, rfl, _, _, rfl, _, _, rfl, rfl, ?_⟩
    refine ⟨.ref D, rfl, .str (p.tl n), rfl, D, _, rfl, dget (Rd.of h5) mt, .ref fl, rfl, .str n, rfl, fl, _, rfl, dget (Rd.of rd3) ml, _, _, rfl, rfl, .ref D, rfl, .str (p.tl n), rfl, D, _, rfl, dput h5 mt kl, ?_⟩
    rw [gI_set]
    refine ⟨.ref D, rfl, .str (p.hd n), rfl, D, _, rfl, dget (Rd.of upd_same) mh, .ref fl, rfl, .str n, rfl, fl, _, rfl, dget (Rd.of (by rw [upd_ne fD]; exact rd3)) ml, _, _, rfl, rfl, .ref D, rfl, .str (p.hd n), rfl, D, _, rfl, dput upd_same mh kl, ?_⟩
    rw [gI_set, upd_upd]
    refine ⟨_, _, _, _, _, _, rfl, s3.mut hD, ?_⟩
    unfold FlAt
    rw [upd_same, List.take_add_one, hn]
    exact congrArg (fun z => some (HO.dK z)) (kvs_congr fun k _ => congrArg V.int (lack_step p.tl p.hd (p.ns.take i) n f k))
  · rintro σ H3 ⟨y3, y4, y5, y6, y7, y8, rfl, s3, h5⟩
    rw [List.length_map, List.take_length] at h5
    exact ⟨_, rfl, q H3 D s3 hD h5⟩
/-! ### _law_balanced -/
abbrev s__law_balanced : Stmt := topS 56
abbrev N__law_balanced : List Str := ["_law_plant_here", "_law_flows", "_law_number"]
theorem sc__law_balanced : FnScope N__law_balanced ["_law_plant_here", "_law_flows"] (defScope s__law_balanced) := ⟨rfl, rfl, rfl, by decide +kernel, rfl, by decide +kernel, by decide +kernel⟩
def spLBal : Sp := fun vs H Q _ => ∃ (pp fl : Addr) (p : Pl) (ls : List Str) (f : Str → Int), vs = [.ref pp, .ref fl] ∧ LawPl H pp p ∧ PlOk p ∧ FlAt H fl ls f ∧ (∀ n ∈ p.ns, n ∈ ls) ∧ ∀ H' (b : Bool), Same H H' → (b = true ↔ Bal p.tl p.hd p.ns p.ks f) → Q (.bl b) H'
theorem ok_law_balanced (T : Txt K mg C CM CR) {f : Addr} {fd : FuncData} (D : DefIn K mg "_law_balanced" s__law_balanced f fd) (c__law_left : Cal P w K mg base 1 "_law_left" spLLeft) : Cal P w K mg base 2 "_law_balanced" spLBal := by
  refine cal_of (N := N__law_balanced) D (ps := ["_law_plant_here", "_law_flows"]) (fun _ _ _ _ _ _ us hl => match us, hl with | [_, _], _ => rfl) sc__law_balanced (fun vs H Q E h => ?_) (fun cdv A outer s H vs Q E hr h => ?_)
  · obtain ⟨pp, fl, p, ls, f, rfl, _⟩ := h
    rfl
  have hu := hu_of hr
  obtain ⟨pp, fl, p, ls, f, rfl, hp, F, hf, sub, q⟩ := h
  refine ⟨_, (pss_one (ps_ret (pe_callB (cr_all rfl) (by rfl) T.all (by decide +kernel) (pa_cons (pe_lc (own := [("_law_number", 2)]) (by rfl) sc__law_balanced.nd (pi_values (pe_freeze (pe_c c__law_left hr (by decide) (by rfl) (pa_cons (pv 0) (pa_cons (pv 1) pa_nil))))) (blkOk_by (own := [("_law_number", 2)]) (N := N__law_balanced) (sc := defScope s__law_balanced) (by decide +kernel)) (fun _ _ _ _ _ => (pg_name (i := 2) sc__law_balanced.nd rfl (by first | exact Or.inl rfl | exact Or.inr rfl))) (fun _ _ _ _ _ => pts_nil) (fun _ _ _ _ _ => (pe_cmpR op_eq (pv 2) pe_int (nomark _)))) pa_nil)))), ?_⟩
  refine ⟨.ref pp, rfl, .ref fl, rfl, pp, fl, p, ls, f, rfl, hp, F, hf, sub, fun H1 r s1 nr hr1 => ⟨r, _, rfl, hr1, trivial, fun od => ⟨r, od, _, rfl, upd_same, fun D hD => ?_⟩⟩⟩
  let u : Str → Bool := fun k => decide (V.int (net p.tl p.hd p.ns f k) = V.int 0)
  have kl := F.kl
  refine lc_it walk_values (LcP _ D fun i acc _ => acc = ((p.ks.take i).map u).map V.bl) (LcP.start hD rfl) (fun i H' _ z => z.1 _ _ upd_same) ?_ ?_
  · rintro i v H2 H3 hi ⟨s2, acc, hc, rfl⟩ ⟨rfl, k, hv⟩
    obtain ⟨x, hx, rfl, rfl⟩ := kvs_get hv
    rw [kvs_len] at hi
    refine ⟨rfl, _, rfl, rfl, LcP.put hD s2 hc (sz_lt ?_) ?_⟩
    · rw [List.length_map, List.length_map, List.length_take]
      omega
    · rw [List.take_add_one, hx, List.map_append, List.map_append]
      rfl
  · rintro H2 ⟨s2, acc, hc, rfl⟩
    rw [kvs_len, List.take_length] at hc
    refine ⟨D, p.ks.map u, rfl, .inl (.inl hc), ?_⟩
    refine q H2 _ (fun b o e => s2 _ _ ?_) ?_
    · rw [upd_ne (ne_of_none e nr)]
      exact s1 _ _ e
    · rw [List.all_eq_true]
      constructor
      · intro h k hk
        have := h (u k) (List.mem_map.mpr ⟨k, hk, rfl⟩)
        exact V.int.inj (of_decide_eq_true this)
      · intro h b hb
        obtain ⟨k, hk, rfl⟩ := List.mem_map.mp hb
        exact decide_eq_true (by rw [h k hk])
/-! ### _law_every -/
abbrev s__law_every : Stmt := topS 57
abbrev N__law_every : List Str := ["_law_limits", "_law_rows", "_law_name", "_law_longer", "_law_row_here", "_law_number", "_law_other"]
theorem sc__law_every : FnScope N__law_every ["_law_limits"] (defScope s__law_every) := ⟨rfl, rfl, rfl, by decide +kernel, rfl, by decide +kernel, by decide +kernel⟩
abbrev Row := Addr × (Str → Int)
def RowsAt (H : Hp) (a : Addr) (ks : List Str) (rs : List Row) : Prop := H a = some (.lst (rs.map fun z => V.ref z.1)) ∧ ∀ z ∈ rs, FlAt H z.1 ks z.2
theorem RowsAt.same {H H' : Hp} {a : Addr} {ks : List Str} {rs : List Row} (h : RowsAt H a ks rs) (e : Same H H') : RowsAt H' a ks rs := ⟨e _ _ h.1, fun z hz => e _ _ (h.2 z hz)⟩
def spEvery : Sp := fun vs H Q _ => ∃ (li : Addr) (ls : List Str) (lo hi : Str → Int), vs = [.ref li] ∧ LimAt H li ls lo hi ∧ ls.Nodup ∧ ls.length ≤ 6 ∧ (∀ n ∈ ls, (-10000000 ≤ lo n ∧ lo n ≤ 10000000 ∧ -10000000 ≤ hi n ∧ hi n ≤ 10000000) ∧ hi n ≤ lo n + 2) ∧
  ∀ H' r ys rs, Same H H' → H r = none → RowsAt H' r ys rs → ys.Perm ls → (∀ z ∈ rs, Within lo hi ls z.2) → (∀ f, Within lo hi ls f → ∃ z ∈ rs, ∀ n ∈ ls, z.2 n = f n) → rs.length ≤ 729 → Q (.ref r) H'
theorem ok_law_every (T : Txt K mg C CM CR) {f : Addr} {fd : FuncData} (D : DefIn K mg "_law_every" s__law_every f fd) : Cal P w K mg base 1 "_law_every" spEvery := by
  refine cal_of (N := N__law_every) D (ps := ["_law_limits"]) (fun _ _ _ _ _ _ us hl => match us, hl with | [_], _ => rfl) sc__law_every (fun vs H Q E h => ?_) (fun cdv A outer s H vs Q E hr h => ?_)
  · obtain ⟨li, ls, lo, hi, rfl, _⟩ := h
    rfl
  have hu := hu_of hr
  obtain ⟨li, ls, lo, hi, rfl, hl, nd, l6, bd, q⟩ := h
  refine ⟨_, (pss_cons (ps_set (i := 1) sc__law_every.nd rfl (by first | exact Or.inl rfl | exact Or.inr rfl) (pe_lst (pa_cons pe_dnewK pa_nil)))
      (pss_cons (ps_for PassesOwn.never rfl (pi_list (pe_callB (call_sortedD rfl) (by rfl) T.sorted (by decide +kernel) (pa_cons (pv 0) pa_nil))) (pg_name (i := 2) sc__law_every.nd rfl (by first | exact Or.inl rfl | exact Or.inr rfl))
      (pss_cons (ps_set (i := 3) sc__law_every.nd rfl (by first | exact Or.inl rfl | exact Or.inr rfl) (pe_lst pa_nil))
      (pss_cons (ps_for PassesOwn.never rfl (pi_list (pv 1)) (pg_name (i := 4) sc__law_every.nd rfl (by first | exact Or.inl rfl | exact Or.inr rfl))
      (pss_one (ps_for PassesOwn.never rfl (pi_range2 (by rfl) T.range (pa_cons (pe_ix ix_tup (pe_dget hu (pv 0) (pv 2) (fun _ _ => rfl)) pe_int (fun _ _ => rfl)) (pa_cons (pe_op op_add (pe_ix ix_tup (pe_dget hu (pv 0) (pv 2) (fun _ _ => rfl)) pe_int (fun _ _ => rfl)) pe_int) pa_nil))) (pg_name (i := 5) sc__law_every.nd rfl (by first | exact Or.inl rfl | exact Or.inr rfl))
      (pss_cons (ps_set (i := 6) sc__law_every.nd rfl (by first | exact Or.inl rfl | exact Or.inr rfl) (pe_callTy call_dictD (by rfl) T.dict (by decide +kernel) (pa_cons (pv 4) pa_nil)))
      (pss_cons (ps_dput hu (pv 6) (pv 2) (pv 5) rfl)
      (pss_one (ps_expr (pe_bm PySem.F.plainAttrs_list PySem.F.slot_list_append PySem.F.type_list_append mt_append (pv 3) (pa_cons (pv 6) pa_nil)))))))))
      (pss_one (ps_set (i := 1) sc__law_every.nd rfl (by first | exact Or.inl rfl | exact Or.inr rfl) (pv 3))))))
      (pss_one (ps_ret (pv 1))))), ?_⟩
  refine fun d0 hd0 => ⟨(by show 1 ≤ sizeLine; decide), fun r0 hr0 => ?_⟩
  have s0 := (same_upd (o := .dK []) hd0).trans (same_upd (o := .lst [.ref d0]) hr0)
  have hd0' := same_upd (o := .lst [.ref d0]) hr0 _ _ (upd_same : upd H d0 (.dK []) d0 = _)
  have nr0 : H r0 = none := (same_upd (o := .dK []) hd0).free hr0
  obtain ⟨t, rd, ht⟩ := hl.same s0
  refine ⟨.ref li, rfl, li, _, ls, rfl, rd, kvs_keys _ _, by omega, fun ys qa py sy hqa => ⟨qa, rfl, ⟨_, SqL.of upd_same⟩, ?_⟩⟩
  have ndy : ys.Nodup := py.nodup_iff.mpr nd
  have y6 : ys.length ≤ 6 := by
    rw [py.length_eq]
    exact l6
  have sq := same_upd (o := .lst (ys.map V.str)) hqa
  refine for_list (K := K) (a := qa) (xs := ys.map V.str) (fun i σ H' => ∃ (y2 y3 y4 y5 y6 : Option V) (ra : Addr) (rs : List Row), σ = [some (.ref li), some (.ref ra), y2, y3, y4, y5, y6] ∧ Same H H' ∧ H' qa = some (.lst (ys.map V.str)) ∧ H ra = none ∧ RowsAt H' ra (ys.take i) rs ∧
      (∀ z ∈ rs, Within lo hi (ys.take i) z.2) ∧ (∀ f, Within lo hi (ys.take i) f → ∃ z ∈ rs, ∀ n ∈ ys.take i, z.2 n = f n) ∧ rs.length ≤ 3 ^ i)
    ⟨_, _, _, _, _, r0, [(d0, fun _ => 0)], rfl, s0.trans sq, upd_same, nr0, ⟨sq _ _ upd_same, fun z hz => ?_⟩, fun z hz n h => (nomatch h), fun f _ => ⟨_, List.mem_singleton.mpr rfl, fun n h => (nomatch h)⟩, Nat.le_refl _⟩ (fun i σ H' _ z => ?_) ?_ ?_
  · rw [List.mem_singleton.mp hz]
    exact sq _ _ hd0'
  · obtain ⟨_, _, _, _, _, _, _, _, _, h, _⟩ := z
    exact SqL.of h
  · rintro i v σ H1 hv ⟨y2, y3, y4, y5, y6', ra, rs, rfl, s1, hqa1, nra, hrs, snd, cmp, len⟩
    obtain ⟨n, rfl, hn⟩ := get_str hv
    have my := List.mem_of_getElem? hn
    have mn := py.mem_iff.mp my
    have new := take_new ndy hn
    have ek : ys.take (i + 1) = ys.take i ++ [n] := by rw [List.take_add_one, hn]; rfl
    have il : i < ys.length := (List.getElem?_eq_some_iff.mp hn).1
    have p5 : 3 ^ i ≤ 243 := by
      have : 3 ^ i ≤ 3 ^ 5 := Nat.pow_le_pow_right (by omega) (by omega)
      exact this
    obtain ⟨⟨b1, b2, b3, b4⟩, b5⟩ := bd n mn
    refine ⟨Nat.zero_le _, fun lg hlg => ?_⟩
    have s2 := same_upd (o := .lst []) hlg
    have nlg : H lg = none := s1.free hlg
    have qalg : qa ≠ lg := ne_of_none hqa1 hlg
    have hrs2 := hrs.same s2
    have ral : ra ≠ lg := ne_of_none hrs.1 hlg
    let Iv (es : List Row) (H' : Hp) : Prop := But lg (upd H1 lg (.lst [])) H' ∧ Same H H' ∧ RowsAt H' lg (ys.take i ++ [n]) es ∧ ∀ z ∈ es, Within lo hi (ys.take i ++ [n]) z.2
    refine ⟨.ref ra, rfl, ra, rfl, ⟨_, SqL.of hrs2.1⟩, for_list (K := K) (a := ra) (xs := rs.map fun z => V.ref z.1) (fun j σ H' => ∃ (y4 y5 y6 : Option V) (es : List Row), σ = [some (.ref li), some (.ref ra), some (.str n), some (.ref lg), y4, y5, y6] ∧ Iv es H' ∧ (∀ z ∈ rs.take j, ∀ v, lo n ≤ v → v ≤ hi n → ∃ z' ∈ es, z'.2 = fset z.2 n v) ∧ es.length ≤ 3 * j)
      ⟨_, _, _, [], rfl, ⟨But.refl _ _, s1.trans s2, ⟨upd_same, fun z h => (nomatch h)⟩, fun z h => (nomatch h)⟩, fun z h => (nomatch h), Nat.le_refl _⟩ (fun j σ H' _ z => ?_) ?_ ?_⟩
    · obtain ⟨_, _, _, _, _, ⟨b, _⟩, _⟩ := z
      exact SqL.of (b _ _ ral hrs2.1)
    · rintro j v σ H3 hv3 ⟨y4, y5, y6', es, rfl, ⟨b3', s3, he3, w3⟩, c3, l3⟩
      obtain ⟨z, rfl, hz⟩ := get_map hv3
      have mz := List.mem_of_getElem? hz
      have jl : j < rs.length := (List.getElem?_eq_some_iff.mp hz).1
      have ej : rs.take (j + 1) = rs.take j ++ [z] := by rw [List.take_add_one, hz]; rfl
      obtain ⟨t3, rd3, ht3⟩ := hl.same s3
      have tn := ht3 n mn
      have fz2 := hrs2.2 z mz
      have zlg : z.1 ≠ lg := fun e => by
        unfold FlAt at fz2
        rw [e, upd_same] at fz2
        cases fz2
      refine ⟨.ref li, rfl, _, rfl, li, _, rfl, dget rd3 mn, t3 n, _, 0, .int (lo n), rfl, rfl, SqT.of tn, rfl, .ref li, rfl, _, rfl, li, _, rfl, dget rd3 mn, t3 n, _, 1, .int (hi n), rfl, rfl, SqT.of tn, rfl, _, _, rfl, rfl, lo n, hi n + 1, rfl, ⟨by omega, by omega, by omega, by omega⟩, ?_⟩
      refine for_range (fun k σ H' => ∃ (y5 y6 : Option V) (es : List Row), σ = [some (.ref li), some (.ref ra), some (.str n), some (.ref lg), some (.ref z.1), y5, y6] ∧ Iv es H' ∧ (∀ z ∈ rs.take j, ∀ v, lo n ≤ v → v ≤ hi n → ∃ z' ∈ es, z'.2 = fset z.2 n v) ∧ (∀ v, lo n ≤ v → v < lo n + k → ∃ z' ∈ es, z'.2 = fset z.2 n v) ∧ es.length ≤ 3 * j + k)
        ⟨_, _, es, rfl, ⟨b3', s3, he3, w3⟩, c3, fun v h1 h2 => absurd h2 (by omega), l3⟩ ?_ ?_
      · rintro k σ H4 hk ⟨y5, y6', es, rfl, ⟨b4', s4, he4, w4⟩, c4, k4, l4⟩
        have hk : k < (hi n + 1 - lo n).toNat := hk
        have fz4 := b4' _ _ zlg fz2
        refine ⟨_, rfl, z.1, _, rfl, Rd.of fz4, fun o ho => ?_⟩
        have so := same_upd (o := .dK (kvs (ys.take i) (gI z.2))) ho
        refine ⟨_, rfl, .ref o, rfl, _, rfl, o, _, rfl, dputN upd_same new (by rw [List.length_take]; omega), ?_⟩
        rw [upd_upd, gI_set]
        have so2 := same_upd (o := .dK (kvs (ys.take i ++ [n]) (gI (fset z.2 n (lo n + (k : Int)))))) ho
        have he5 := he4.same so2
        refine ⟨.ref lg, rfl, .inl ⟨rfl, _, SqL.of he5.1⟩, _, rfl, lg, _, _, rfl, rfl, he5.1, sz_lt (by rw [List.length_map]; omega), ?_⟩
        have olg : o ≠ lg := (ne_of_none he4.1 ho).symm
        have wz : Within lo hi (ys.take i ++ [n]) (fset z.2 n (lo n + (k : Int))) := fun m hm => by
          by_cases c : m = n
          · rw [c, fset_same]
            omega
          · rw [fset_ne _ _ c]
            exact snd z mz m ((List.mem_append.mp hm).elim id fun x => absurd (List.mem_singleton.mp x) c)
        refine ⟨_, _, es ++ [(o, fset z.2 n (lo n + (k : Int)))], rfl, ⟨(b4'.trans so2.but).trans (But.upd _ _), (s4.trans so2).mut nlg, ⟨?_, fun y hy => ?_⟩, fun y hy => ?_⟩, fun y hy v h1 h2 => ?_, fun v h1 h2 => ?_, ?_⟩
        · rw [upd_same, List.map_append]
          rfl
        · rcases List.mem_append.mp hy with m | m
          · have e := he5.2 y m
            unfold FlAt at e ⊢
            rw [upd_ne (fun x => by rw [x, he5.1] at e; cases e)]
            exact e
          · rw [List.mem_singleton.mp m]
            unfold FlAt
            rw [upd_ne olg, upd_same]
        · rcases List.mem_append.mp hy with m | m
          · exact w4 y m
          · rw [List.mem_singleton.mp m]
            exact wz
        · obtain ⟨z', m', e'⟩ := c4 y hy v h1 h2
          exact ⟨z', List.mem_append_left _ m', e'⟩
        · by_cases c : v = lo n + (k : Int)
          · exact ⟨_, List.mem_append_right _ (List.mem_singleton.mpr rfl), by rw [c]⟩
          · obtain ⟨z', m', e'⟩ := k4 v h1 (by omega)
            exact ⟨z', List.mem_append_left _ m', e'⟩
        · rw [List.length_append]
          show es.length + 1 ≤ _
          omega
      · rintro σ H4 ⟨y5, y6', es, rfl, iv, c4, k4, l4⟩
        refine ⟨_, _, _, es, rfl, iv, fun y hy v h1 h2 => ?_, by omega⟩
        rw [ej] at hy
        rcases List.mem_append.mp hy with m | m
        · exact c4 y m v h1 h2
        · rw [List.mem_singleton.mp m]
          exact k4 v h1 (by omega)
    · rintro σ H3 ⟨y4, y5, y6', es, rfl, ⟨b3', s3, he3, w3⟩, c3, l3⟩
      rw [List.length_map, List.take_length] at c3
      rw [List.length_map] at l3
      refine ⟨_, rfl, _, _, _, _, _, lg, es, rfl, s3, b3' _ _ qalg (s2 _ _ hqa1), nlg, by rw [ek]; exact he3, by rw [ek]; exact w3, fun f hf => ?_, ?_⟩
      · rw [ek] at hf ⊢
        obtain ⟨z, mz, ez⟩ := cmp f fun m hm => hf m (List.mem_append_left _ hm)
        have hfn := hf n (List.mem_append_right _ (List.mem_singleton.mpr rfl))
        obtain ⟨z', mz', ez'⟩ := c3 z mz (f n) hfn.1 hfn.2
        refine ⟨z', mz', fun m hm => ?_⟩
        rw [ez']
        by_cases c : m = n
        · rw [c, fset_same]
        · rw [fset_ne _ _ c]
          exact ez m ((List.mem_append.mp hm).elim id fun x => absurd (List.mem_singleton.mp x) c)
      · rw [Nat.pow_succ]
        omega
  · rintro σ H1 ⟨y2, y3, y4, y5, y6', ra, rs, rfl, s1, hqa1, nra, hrs, snd, cmp, len⟩
    rw [List.length_map, List.take_length] at hrs snd cmp
    rw [List.length_map] at len
    have p6 : 3 ^ ys.length ≤ 729 := by
      have : 3 ^ ys.length ≤ 3 ^ 6 := Nat.pow_le_pow_right (by omega) (by omega)
      exact this
    refine ⟨_, rfl, q H1 ra ys rs s1 nra hrs py (fun z hz n h => snd z hz n (py.mem_iff.mpr h)) (fun f hf => ?_) (by omega)⟩
    obtain ⟨z, mz, ez⟩ := cmp f fun n h => hf n (py.mem_iff.mp h)
    exact ⟨z, mz, fun n h => ez n (py.mem_iff.mpr h)⟩
end
end Ms
set_option Elab.async false
set_option linter.all false
set_option maxRecDepth 100000
set_option maxHeartbeats 4000000
/-! The balanced flows, the numbers of each stream. -/
namespace Ms
open PySem PySem.Spec PyProof.Rows L2
/-- limits that the law searches -/
abbrev Near (ls : List Str) (lo hi : Str → Int) : Prop := ∀ n ∈ ls, (-10000000 ≤ lo n ∧ lo n ≤ 10000000 ∧ -10000000 ≤ hi n ∧ hi n ≤ 10000000) ∧ hi n ≤ lo n + 2
section
variable {P : Program} {w : World} {K : PySem.W.Frag} {mg : Str → Option Value} {base : Heap} {C CM CR : Addr}
/-! ### _law_all_balanced -/
abbrev s__law_all_balanced : Stmt := topS 58
abbrev N__law_all_balanced : List Str := ["_law_plant_here", "_law_limits", "_law_flows"]
theorem sc__law_all_balanced : FnScope N__law_all_balanced ["_law_plant_here", "_law_limits"] (defScope s__law_all_balanced) := ⟨rfl, rfl, rfl, by decide +kernel, rfl, by decide +kernel, by decide +kernel⟩
def spAllBal : Sp := fun vs H Q _ => ∃ (pp li : Addr) (p : Pl) (ls : List Str) (lo hi : Str → Int), vs = [.ref pp, .ref li] ∧ LawPl H pp p ∧ PlOk p ∧ LimAt H li ls lo hi ∧ ls.Perm p.ns ∧ ls.length ≤ 6 ∧ Near ls lo hi ∧
  ∀ H' r ys gs, Same H H' → H r = none → RowsAt H' r ys gs → ys.Perm p.ns → (∀ z ∈ gs, Ok p lo hi z.2) → (∀ f, Ok p lo hi f → ∃ z ∈ gs, ∀ n ∈ p.ns, z.2 n = f n) → gs.length ≤ 729 → Q (.ref r) H'
theorem bal_congr {p : Pl} {f g : Str → Int} (e : ∀ n ∈ p.ns, f n = g n) (h : Bal p.tl p.hd p.ns p.ks f) : Bal p.tl p.hd p.ns p.ks g := fun k hk => by
  rw [← net_congr e k]
  exact h k hk
theorem ok_law_all_balanced (T : Txt K mg C CM CR) {f : Addr} {fd : FuncData} (D : DefIn K mg "_law_all_balanced" s__law_all_balanced f fd) (c__law_every : Cal P w K mg base 1 "_law_every" spEvery) (c__law_balanced : Cal P w K mg base 2 "_law_balanced" spLBal) : Cal P w K mg base 3 "_law_all_balanced" spAllBal := by
  refine cal_of (N := N__law_all_balanced) D (ps := ["_law_plant_here", "_law_limits"]) (fun _ _ _ _ _ _ us hl => match us, hl with | [_, _], _ => rfl) sc__law_all_balanced (fun vs H Q E h => ?_) (fun cdv A outer s H vs Q E hr h => ?_)
  · obtain ⟨pp, li, p, ls, lo, hi, rfl, _⟩ := h
    rfl
  have hu := hu_of hr
  obtain ⟨pp, li, p, ls, lo, hi, rfl, hp, F, hl, pm, l6, nr, q⟩ := h
  refine ⟨_, (pss_one (ps_ret (pe_lc (own := [("_law_flows", 2)]) (by rfl) sc__law_all_balanced.nd (pi_list (pe_c c__law_every hr (by decide) (by rfl) (pa_cons (pv 1) pa_nil))) (blkOk_by (own := [("_law_flows", 2)]) (N := N__law_all_balanced) (sc := defScope s__law_all_balanced) (by decide +kernel)) (fun _ _ _ _ _ => (pg_name (i := 2) sc__law_all_balanced.nd rfl (by first | exact Or.inl rfl | exact Or.inr rfl))) (fun _ _ _ _ _ => (pts_one (pt_val (pe_c c__law_balanced hr (by decide) (by rfl) (pa_cons (pv 0) (pa_cons (pv 2) pa_nil)))))) (fun _ _ _ _ _ => (pv 2))))), ?_⟩
  refine ⟨.ref li, rfl, li, ls, lo, hi, rfl, hl, pm.nodup_iff.mpr F.nd, l6, nr, fun H1 r ys rs s1 nr1 hrs py snd cmp len => ⟨r, rfl, ⟨_, SqL.of hrs.1⟩, fun D hD => ?_⟩⟩
  have pyn : ys.Perm p.ns := py.trans pm
  let B : (Str → Int) → Prop := Bal p.tl p.hd p.ns p.ks
  refine lc_it (walk_list (xs := rs.map fun z => V.ref z.1)) (LcP H1 D fun i acc _ => ∃ gs : List Row, acc = gs.map (fun z => V.ref z.1) ∧ gs.length ≤ i ∧ (∀ z ∈ gs, z ∈ rs ∧ B z.2) ∧ ∀ z ∈ rs.take i, B z.2 → z ∈ gs) (LcP.start hD ⟨[], rfl, Nat.le_refl _, fun z h => (nomatch h), fun z h => (nomatch h)⟩) (fun i H' _ z => SqL.of (z.1 _ _ hrs.1)) ?_ ?_
  · rintro i v H2 H3 hi2 ⟨s2, acc, hc, gs, rfl, gl, g1, g2⟩ ⟨rfl, hv⟩
    obtain ⟨z, rfl, hz⟩ := get_map hv
    have mz := List.mem_of_getElem? hz
    rw [List.length_map] at hi2
    have ek : rs.take (i + 1) = rs.take i ++ [z] := by rw [List.take_add_one, hz]; rfl
    have s12 := s1.trans s2
    refine ⟨rfl, .ref pp, rfl, _, rfl, pp, z.1, p, ys, z.2, rfl, hp.same s12, F, s2 _ _ (hrs.2 z mz), fun n h => pyn.mem_iff.mpr h, fun H4 b s4 hb => ⟨b, rfl, iteB (fun e => ⟨_, rfl, LcP.put hD (s2.trans s4) (s4 _ _ hc) (sz_lt ?_) ⟨gs ++ [z], ?_, ?_, fun y hy => ?_, fun y hy hB => ?_⟩⟩) fun e => ⟨s2.trans s4, _, s4 _ _ hc, gs, rfl, by omega, g1, fun y hy hB => ?_⟩⟩⟩
    · rw [List.length_map]
      omega
    · rw [List.map_append]
      rfl
    · rw [List.length_append]
      show gs.length + 1 ≤ i + 1
      omega
    · rcases List.mem_append.mp hy with m | m
      · exact g1 y m
      · rw [List.mem_singleton.mp m]
        exact ⟨mz, hb.mp e⟩
    · rw [ek] at hy
      exact List.mem_append.mpr ((List.mem_append.mp hy).imp (fun m => g2 y m hB) id)
    · rw [ek] at hy
      rcases List.mem_append.mp hy with m | m
      · exact g2 y m hB
      · rw [List.mem_singleton.mp m] at hB
        rw [hb.mpr hB] at e
        cases e
  · rintro H2 ⟨s2, acc, hc, gs, rfl, gl, g1, g2⟩
    rw [List.length_map] at gl
    rw [List.length_map, List.take_length] at g2
    refine q H2 D ys gs (s1.trans s2) (s1.free hD) ⟨hc, fun z hz => s2 _ _ (hrs.2 z (g1 z hz).1)⟩ pyn (fun z hz => ⟨fun n h => snd z (g1 z hz).1 n (pm.mem_iff.mpr h), (g1 z hz).2⟩) (fun f hf => ?_) (by omega)
    obtain ⟨z, mz, ez⟩ := cmp f fun n h => hf.1 n (pm.mem_iff.mp h)
    have ez' : ∀ n ∈ p.ns, z.2 n = f n := fun n h => ez n (pm.mem_iff.mpr h)
    exact ⟨z, g2 z mz (bal_congr (fun n h => (ez' n h).symm) hf.2), ez'⟩
/-! ### _law_spans -/
abbrev s__law_spans : Stmt := topS 60
abbrev N__law_spans : List Str := ["_law_plant_here", "_law_limits", "_law_good", "_law_found", "_law_name", "_law_row_here"]
theorem sc__law_spans : FnScope N__law_spans ["_law_plant_here", "_law_limits"] (defScope s__law_spans) := ⟨rfl, rfl, rfl, by decide +kernel, rfl, by decide +kernel, by decide +kernel⟩
/-- a dict of lists of ints -/
def SpAt (H : Hp) (fo : Addr) (done : List Str) (xs : Str → List Int) : Prop := ∃ t : Str → Addr, H fo = some (.dK (kvs done fun m => V.ref (t m))) ∧ ∀ m ∈ done, H (t m) = some (.lst ((xs m).map V.int))
theorem SpAt.same {H H' : Hp} {fo : Addr} {done : List Str} {xs : Str → List Int} (h : SpAt H fo done xs) (e : Same H H') : SpAt H' fo done xs := by
  obtain ⟨t, a, b⟩ := h
  exact ⟨t, e _ _ a, fun m hm => e _ _ (b m hm)⟩
def xset (xs : Str → List Int) (n : Str) (l : List Int) : Str → List Int := fun m => if m = n then l else xs m
theorem spat_put {H : Hp} {fo q : Addr} {done : List Str} {xs : Str → List Int} {t : Str → Addr} {n : Str} {l : List Int} (h1 : H fo = some (.dK (kvs done fun m => V.ref (t m)))) (h2 : ∀ m ∈ done, H (t m) = some (.lst ((xs m).map V.int))) (hn : n ∉ done) (hq : H q = none) :
    SpAt (upd (upd H q (.lst (l.map V.int))) fo (.dK (kvs (done ++ [n]) (gset (fun m => V.ref (t m)) n (.ref q))))) fo (done ++ [n]) (xset xs n l) := by
  have qf : q ≠ fo := (ne_of_none h1 hq).symm
  refine ⟨fun m => if m = n then q else t m, ?_, fun m hm => ?_⟩
  · rw [upd_same]
    refine congrArg (fun z => some (HO.dK z)) (kvs_congr fun m _ => ?_)
    unfold gset
    show (if m = n then V.ref q else V.ref (t m)) = V.ref (if m = n then q else t m)
    split <;> rfl
  · show upd (upd H q _) fo _ (if m = n then q else t m) = some (.lst ((if m = n then l else xs m).map V.int))
    by_cases c : m = n
    · rw [if_pos c, if_pos c, upd_ne qf, upd_same]
    · have hm' : m ∈ done := (List.mem_append.mp hm).elim id fun x => absurd (List.mem_singleton.mp x) c
      have e := h2 m hm'
      rw [if_neg c, if_neg c, upd_ne (fun x => by rw [x, h1] at e; cases e), upd_ne (ne_of_none e hq)]
      exact e
/-- the numbers of a stream over all balanced flows, in order -/
def Nums (p : Pl) (lo hi : Str → Int) (n : Str) (xs : List Int) : Prop := xs.Pairwise (· < ·) ∧ ∀ v, v ∈ xs ↔ ∃ f, Ok p lo hi f ∧ f n = v
def spSpans : Sp := fun vs H Q _ => ∃ (pp li : Addr) (p : Pl) (ls : List Str) (lo hi : Str → Int), vs = [.ref pp, .ref li] ∧ LawPl H pp p ∧ PlOk p ∧ DTab H li ls (limRow lo hi) ∧ ls.Perm p.ns ∧ ls.length ≤ 6 ∧ Near ls lo hi ∧
  (∀ H', Same H H' → (∀ f, ¬ Ok p lo hi f) → Q .non H') ∧ ∀ H' r xs, Same H H' → H r = none → SpAt H' r ls xs → (∃ f, Ok p lo hi f) → (∀ n ∈ p.ns, Nums p lo hi n (xs n)) → Q (.ref r) H'
theorem ok_law_spans (T : Txt K mg C CM CR) {f : Addr} {fd : FuncData} (D : DefIn K mg "_law_spans" s__law_spans f fd) (c__law_all_balanced : Cal P w K mg base 3 "_law_all_balanced" spAllBal) : Cal P w K mg base 4 "_law_spans" spSpans := by
  refine cal_of (N := N__law_spans) D (ps := ["_law_plant_here", "_law_limits"]) (fun _ _ _ _ _ _ us hl => match us, hl with | [_, _], _ => rfl) sc__law_spans (fun vs H Q E h => ?_) (fun cdv A outer s H vs Q E hr h => ?_)
  · obtain ⟨pp, li, p, ls, lo, hi, rfl, _⟩ := h
    rfl
  have hu := hu_of hr
  obtain ⟨pp, li, p, ls, lo, hi, rfl, hp, F, hl, pm, l6, near, q0, q1⟩ := h
  have nd : ls.Nodup := pm.nodup_iff.mpr F.nd
  refine ⟨_, (pss_cons (ps_set (i := 2) sc__law_spans.nd rfl (by first | exact Or.inl rfl | exact Or.inr rfl) (pe_c c__law_all_balanced hr (by decide) (by rfl) (pa_cons (pv 0) (pa_cons (pv 1) pa_nil))))
      (pss_cons (ps_if (pt_cmpR op_eq (pe_callB call_len_seq (by rfl) T.len (by decide +kernel) (pa_cons (pv 2) pa_nil)) pe_int (nomark _)) (pss_one (ps_ret pe_non)) pss_nil)
      (pss_cons (ps_set (i := 3) sc__law_spans.nd rfl (by first | exact Or.inl rfl | exact Or.inr rfl) pe_dnewK)
      (pss_cons (ps_lock (ps_for PassesOwn.never rfl (pi_keys (pv 1)) (pg_name (i := 4) sc__law_spans.nd rfl (by first | exact Or.inl rfl | exact Or.inr rfl))
      (pss_one (ps_dput hu (pv 3) (pv 4) (pe_callB (cr_sortedSet rfl) (by rfl) T.sorted (by decide +kernel) (pa_cons (pe_callTy (cr_setI rfl) (by rfl) T.set (by decide +kernel) (pa_cons (pe_lc (own := [("_law_row_here", 5)]) (by rfl) sc__law_spans.nd (pi_list (pv 2)) (blkOk_by (own := [("_law_row_here", 5)]) (N := N__law_spans) (sc := defScope s__law_spans) (by decide +kernel)) (fun _ _ _ _ _ => (pg_name (i := 5) sc__law_spans.nd rfl (by first | exact Or.inl rfl | exact Or.inr rfl))) (fun _ _ _ _ _ => pts_nil) (fun _ _ _ _ _ => (pe_dget hu (pv 5) (pv 4) (fun _ _ => rfl)))) pa_nil)) pa_nil)) rfl))))
      (pss_one (ps_ret (pv 3))))))), ?_⟩
  refine ⟨.ref pp, rfl, .ref li, rfl, pp, li, p, ls, lo, hi, rfl, hp, F, hl.limits, pm, l6, near, fun H1 ga ys gs s1 nga hgs pys snd cmp len => ?_⟩
  refine ⟨_, rfl, ga, _, rfl, .inl (SqL.of hgs.1), rfl, _, rfl, ite2 (fun e => ?_) fun e => ?_⟩
  · refine q0 H1 s1 fun f hf => ?_
    obtain ⟨z, mz, _⟩ := cmp f hf
    have e0 := V.int.inj (of_decide_eq_true e)
    rw [List.length_map] at e0
    have := List.length_pos_of_mem mz
    omega
  have gne : gs ≠ [] := fun z => e (decide_eq_true (by rw [z]; rfl))
  refine fun fo hfo => ?_
  have s2 := same_upd (o := .dK []) hfo
  have nfo : H fo = none := s1.free hfo
  have s12 := s1.trans s2
  obtain ⟨t, hl1, hl2⟩ := hl
  have hl12 := s12 _ _ hl1
  have hfo2 : upd H1 fo (.dK []) fo = some (.dK []) := upd_same
  have hgs2 := hgs.same s2
  have gfo : ∀ z ∈ gs, z.1 ≠ fo := fun z hz => ne_of_none (hgs.2 z hz) hfo
  have gafo : ga ≠ fo := ne_of_none hgs.1 hfo
  have lifo : li ≠ fo := ne_of_none hl1 nfo
  generalize upd H1 fo (.dK []) = H2 at s12 hl12 hfo2 hgs2 ⊢
  refine ⟨li, _, hl12, trivial, fun od => ?_⟩
  have bl : ∀ b o, b ≠ li → H2 b = some o → upd H2 li (.frz od (.dK (kvs ls fun m => V.ref (t m)))) b = some o := fun b o n e => by rw [upd_ne n]; exact e
  have hli3 : upd H2 li (.frz od (.dK (kvs ls fun m => V.ref (t m)))) li = some (.frz od (.dK (kvs ls fun m => V.ref (t m)))) := upd_same
  have hfo3 := bl _ _ lifo.symm hfo2
  have ga3 := bl ga _ (fun z => by have a := hgs2.1; rw [z, hl12] at a; cases a) hgs2.1
  have gz3 : ∀ n ∈ ls, ∀ z ∈ gs, FlAt (upd H2 li (.frz od (.dK (kvs ls fun m => V.ref (t m))))) z.1 ys z.2 := fun n hn z hz => bl _ _ (fun x => by
    have a := hgs.2 z hz
    unfold FlAt at a
    rw [x, s1 _ _ hl1] at a
    have a2 : kvs ls (fun m => V.ref (t m)) = kvs ys (gI z.2) := HO.dK.inj (Option.some.inj a)
    have a3 := congrArg (fun k => valV k (Sum.inr n)) a2
    simp only [val_in hn, val_in (pys.mem_iff.mpr (pm.mem_iff.mp hn))] at a3
    cases a3) (hgs2.2 z hz)
  generalize upd H2 li (.frz od (.dK (kvs ls fun m => V.ref (t m)))) = H3 at bl hli3 hfo3 ga3 gz3 ⊢
  refine ⟨.ref li, rfl, li, od, rfl, .inl ⟨_, hli3, for_it walk_keys (fun i σ H' => ∃ (y4 y5 : Option V) (xs : Str → List Int), σ = [some (.ref pp), some (.ref li), some (.ref ga), some (.ref fo), y4, y5] ∧ But fo H3 H' ∧ SpAt H' fo (ls.take i) xs ∧ ∀ n ∈ ls.take i, Nums p lo hi n (xs n))
    ⟨none, none, fun _ => [], rfl, But.refl _ _, ⟨fun _ => 0, hfo3, fun m h => (nomatch h)⟩, fun m h => (nomatch h)⟩ (fun i σ H' _ z => ?_) ?_ ?_⟩⟩
  · obtain ⟨_, _, _, _, b, _⟩ := z
    exact b _ _ lifo hli3
  · rintro i v σ H4 H5 hi4 ⟨y4, y5, xs, rfl, b4, ⟨tt, h4, ht4⟩, hx⟩ ⟨rfl, k, v2, hv, rfl⟩
    obtain ⟨n, hn, rfl, _⟩ := kvs_get hv
    rw [kvs_len] at hi4
    have mn := List.mem_of_getElem? hn
    have mp := pm.mem_iff.mp mn
    have my := pys.mem_iff.mpr mp
    have new := take_new nd hn
    have ek : ls.take (i + 1) = ls.take i ++ [n] := by rw [List.take_add_one, hn]; rfl
    obtain ⟨nb, n2⟩ := near n mn
    have ga4 := b4 _ _ gafo ga3
    have gz4 : ∀ z ∈ gs, FlAt H5 z.1 ys z.2 := fun z hz => b4 _ _ (gfo z hz) (gz3 n mn z hz)
    refine ⟨.ref ga, rfl, ga, rfl, ⟨_, SqL.of ga4⟩, fun D hD => ?_⟩
    refine lc_it (walk_list (xs := gs.map fun z => V.ref z.1)) (LcP H5 D fun i acc _ => acc = ((gs.take i).map fun z => z.2 n).map V.int) (LcP.start hD rfl) (fun i H' _ z => SqL.of (z.1 _ _ ga4)) ?_ ?_
    · rintro j v H6 H7 hj ⟨s6, acc, hc, rfl⟩ ⟨rfl, hv6⟩
      obtain ⟨z, rfl, hz⟩ := get_map hv6
      rw [List.length_map] at hj
      refine ⟨rfl, _, rfl, _, rfl, z.1, _, rfl, dget (Rd.of (s6 _ _ (gz4 z (List.mem_of_getElem? hz)))) my, LcP.put hD s6 hc (sz_lt ?_) ?_⟩
      · rw [List.length_map, List.length_map, List.length_take]
        omega
      · rw [List.take_add_one, hz, List.map_append, List.map_append]
        rfl
    rintro H6 ⟨s6, acc, hc, rfl⟩
    rw [List.length_map, List.take_length] at hc
    refine ⟨D, gs.map fun z => z.2 n, rfl, SqL.of hc, by rw [List.length_map]; omega, fun q S c hq hS hcl => ?_⟩
    have inn : ∀ v, v ∈ gs.map (fun z => z.2 n) ↔ ∃ f, Ok p lo hi f ∧ f n = v := fun v => by
      constructor
      · intro h
        obtain ⟨z, hz, e⟩ := List.mem_map.mp h
        exact ⟨z.2, snd z hz, e⟩
      · rintro ⟨f, hf, e⟩
        obtain ⟨z, hz, ez⟩ := cmp f hf
        exact List.mem_map.mpr ⟨z, hz, by rw [ez n mp, e]⟩
    have c3 : c ≤ 3 := hcl [lo n, lo n + 1, lo n + 2] fun v hv => by
      obtain ⟨f, hf, e⟩ := (inn v).mp hv
      have w1 := hf.1 n mp
      simp only [List.mem_cons, List.not_mem_nil, or_false]
      omega
    refine ⟨q, S, c, rfl, upd_same, by omega, fun zs q2 pw mem lz hq2 => ?_⟩
    have s7 := s6.trans (same_upd (o := SetO w q S c) hq)
    refine ⟨.ref fo, rfl, _, rfl, fo, _, rfl, dputN (same_upd hq2 _ _ (s7 _ _ h4)) new (by rw [List.length_take]; omega), ?_⟩
    refine ⟨_, _, xset xs n zs, rfl, (b4.trans (s7.trans (same_upd hq2)).but).trans (But.upd _ _), ?_, fun m hm => ?_⟩
    · rw [ek]
      exact spat_put (s7 _ _ h4) (fun m hm => s7 _ _ (ht4 m hm)) new hq2
    · unfold xset
      by_cases c0 : m = n
      · subst c0
        rw [if_pos rfl]
        exact ⟨pw, fun v => (mem v).trans ((hS v).trans (inn v))⟩
      · rw [if_neg c0]
        rw [ek] at hm
        exact hx m ((List.mem_append.mp hm).elim id fun x => absurd (List.mem_singleton.mp x) c0)
  · rintro σ H4 ⟨y4, y5, xs, rfl, b4, sp, hx⟩
    rw [kvs_len, List.take_length] at sp hx
    refine ⟨b4 _ _ lifo hli3, _, rfl, ?_⟩
    obtain ⟨tt, h4, ht4⟩ := sp
    obtain ⟨z0, hz0⟩ := List.exists_mem_of_ne_nil gs gne
    refine q1 _ fo xs (fun b o e => ?_) nfo ⟨tt, by rw [upd_ne lifo.symm]; exact h4, fun m hm => ?_⟩ ⟨z0.2, snd z0 hz0⟩ fun n h => hx n (pm.mem_iff.mpr h)
    · by_cases c : b = li
      · rw [c, upd_same, ← hl1, ← c]
        exact e
      · rw [upd_ne c]
        exact b4 _ _ (ne_of_none e nfo) (bl _ _ c (s12 _ _ e))
    · have e := ht4 m hm
      rw [upd_ne (fun x => by rw [x, b4 _ _ lifo hli3] at e; cases e)]
      exact e
end
end Ms
set_option Elab.async false
set_option linter.all false
set_option maxRecDepth 100000
set_option maxHeartbeats 4000000
/-! The plain law: what the law's search finds is what the ranges tell. -/
namespace Ms
open PySem PySem.Spec PyProof.Rows L2
/-! ### the order of a plant's names -/
theorem tot_perm {β : Type} {l m : List β} (h : l.Perm m) (g : β → Int) : tot l g = tot m g := by
  induction h with
  | nil => rfl
  | cons x _ ih => rw [tot_cons, tot_cons, ih]
  | swap x y l =>
    rw [tot_cons, tot_cons, tot_cons, tot_cons]
    omega
  | trans _ _ a b => exact a.trans b
theorem ok_order {p : Pl} {ks ns : List Str} (pk : ks.Perm p.ks) (pn : ns.Perm p.ns) {lo hi f : Str → Int} : Ok (p.order ks ns) lo hi f ↔ Ok p lo hi f := by
  have e : ∀ k, net p.tl p.hd ns f k = net p.tl p.hd p.ns f k := fun k => tot_perm pn _
  constructor
  · intro h
    refine ⟨fun n hn => h.1 n (pn.mem_iff.mpr hn), fun k hk => ?_⟩
    rw [← e k]
    exact h.2 k (pk.mem_iff.mpr hk)
  · intro h
    refine ⟨fun n hn => h.1 n (pn.mem_iff.mp hn), fun k hk => ?_⟩
    show net p.tl p.hd ns f k = 0
    rw [e k]
    exact h.2 k (pk.mem_iff.mp hk)
theorem ext_order {p : Pl} {ks ns : List Str} (pk : ks.Perm p.ks) (pn : ns.Perm p.ns) {lo hi : Str → Int} {n : Str} {l h : Int} (x : Ext (p.order ks ns) lo hi n l h) : Ext p lo hi n l h := by
  obtain ⟨⟨f, a, b⟩, ⟨g, c, d⟩, e⟩ := x
  exact ⟨⟨f, (ok_order pk pn).mp a, b⟩, ⟨g, (ok_order pk pn).mp c, d⟩, fun f hf => e f ((ok_order pk pn).mpr hf)⟩
theorem ext_one {p : Pl} {lo hi : Str → Int} {n : Str} {l h l' h' : Int} (x : Ext p lo hi n l h) (y : Ext p lo hi n l' h') : l = l' ∧ h = h' := by
  obtain ⟨⟨f, a, b⟩, ⟨g, c, d⟩, e⟩ := x
  obtain ⟨⟨f', a', b'⟩, ⟨g', c', d'⟩, e'⟩ := y
  have := e f' a'
  have := e g' c'
  have := e' f a
  have := e' g c
  omega
/-! ### the numbers of a stream are a whole range -/
theorem sorted_one : ∀ {xs ys : List Int}, xs.Pairwise (· < ·) → ys.Pairwise (· < ·) → (∀ v, v ∈ xs ↔ v ∈ ys) → xs = ys
  | [], [], _, _, _ => rfl
  | [], y :: ys, _, _, h => nomatch (h y).mpr List.mem_cons_self
  | x :: xs, [], _, _, h => nomatch (h x).mp List.mem_cons_self
  | x :: xs, y :: ys, hx, hy, h => by
    obtain ⟨x1, x2⟩ := List.pairwise_cons.mp hx
    obtain ⟨y1, y2⟩ := List.pairwise_cons.mp hy
    have e : x = y := by
      rcases List.mem_cons.mp ((h x).mp List.mem_cons_self) with a | a
      · exact a
      · rcases List.mem_cons.mp ((h y).mpr List.mem_cons_self) with b | b
        · exact b.symm
        · have := y1 x a
          have := x1 y b
          omega
    subst e
    rw [sorted_one x2 y2 fun v => ?_]
    constructor
    · intro m
      rcases List.mem_cons.mp ((h v).mp (List.mem_cons_of_mem _ m)) with a | a
      · have := x1 v m
        omega
      · exact a
    · intro m
      rcases List.mem_cons.mp ((h v).mpr (List.mem_cons_of_mem _ m)) with a | a
      · have := y1 v m
        omega
      · exact a
/-- the ints from l on, m of them -/
def upTo (l : Int) (m : Nat) : List Int := (List.range m).map fun i : Nat => l + (i : Int)
theorem upTo_mem (l : Int) (m : Nat) (v : Int) : v ∈ upTo l m ↔ l ≤ v ∧ v < l + m := by
  unfold upTo
  rw [List.mem_map]
  constructor
  · rintro ⟨i, hi, rfl⟩
    have := List.mem_range.mp hi
    omega
  · rintro ⟨a, b⟩
    exact ⟨(v - l).toNat, List.mem_range.mpr (by omega), by omega⟩
theorem upTo_sorted (l : Int) (m : Nat) : (upTo l m).Pairwise (· < ·) := by
  unfold upTo
  refine List.Pairwise.map _ (R := fun a b : Nat => a < b) (fun a b h => by omega) ?_
  exact List.pairwise_lt_range
theorem upTo_rgV (l : Int) (h : Int) : rgV l (h + 1) = (upTo l (h + 1 - l).toNat).map V.int := by
  unfold rgV upTo
  rw [List.map_map]
  rfl
theorem nums_all {p : Pl} (F : PlOk p) {lo hi : Str → Int} {n : Str} {xs : List Int} {l h : Int} (hn : n ∈ p.ns) (N : Nums p lo hi n xs) (x : Ext p lo hi n l h) : xs = upTo l (h + 1 - l).toNat := by
  refine sorted_one N.1 (upTo_sorted _ _) fun v => ?_
  rw [N.2 v, upTo_mem]
  constructor
  · rintro ⟨f, ok, rfl⟩
    have := x.all f ok
    omega
  · rintro ⟨a, b⟩
    obtain ⟨f, okf, ef⟩ := x.low
    obtain ⟨g, okg, eg⟩ := x.high
    obtain ⟨k, w1, b1, e1⟩ := between F.nd F.kd F.ends hn okg.1 okg.2 (v - l).toNat f okf.1 okf.2 (by omega)
    exact ⟨k, ⟨w1, b1⟩, by omega⟩
theorem ext_le {p : Pl} {lo hi : Str → Int} {n : Str} {l h : Int} (hn : n ∈ p.ns) (x : Ext p lo hi n l h) : lo n ≤ l ∧ l ≤ h ∧ h ≤ hi n := by
  obtain ⟨f, ok, e⟩ := x.low
  obtain ⟨g, ok2, e2⟩ := x.high
  have := (x.all g ok2).1
  have := ok.1 n hn
  have := ok2.1 n hn
  omega
theorem upTo_first {l h : Int} (le : l ≤ h) : atI ((upTo l (h + 1 - l).toNat).map V.int) 0 = some (.int l) := by
  obtain ⟨m, e⟩ : ∃ m, (h + 1 - l).toNat = m + 1 := ⟨(h - l).toNat, by omega⟩
  rw [e]
  refine atI_nat (j := 0) ?_
  unfold upTo
  rw [List.map_map, List.getElem?_map, List.getElem?_range (by omega)]
  show some (V.int (l + 0)) = _
  rw [Int.add_zero]
theorem upTo_last {l h : Int} (le : l ≤ h) : atI ((upTo l (h + 1 - l).toNat).map V.int) (-1) = some (.int h) := by
  obtain ⟨m, e⟩ : ∃ m, (h + 1 - l).toNat = m + 1 := ⟨(h - l).toNat, by omega⟩
  rw [e]
  unfold upTo
  rw [List.range_succ, List.map_append, List.map_append]
  have e2 : l + (m : Int) = h := by omega
  show atI (_ ++ [V.int (l + (m : Int))]) (-1) = _
  rw [e2]
  exact atI_last _ _
/-! ### equal data -/
section
variable {K : PySem.W.Frag} {H : Hp}
theorem dp_ints : ∀ xs : List Int, DpAll K H (xs.map V.int) (xs.map PyData.int)
  | [] => .nil
  | x :: xs => .cons (.int x) (dp_ints xs)
theorem lay_ints : ∀ xs : List Int, PyData.canLayAll0 (xs.map PyData.int) = true
  | [] => by simp [PyData.canLayAll0]
  | x :: xs => by
    rw [List.map_cons, PyData.canLayAll0, lay_ints xs]
    simp [PyData.canLay0]
theorem depth_ints : ∀ xs : List Int, PyData.depthAll (xs.map PyData.int) ≤ 1
  | [] => by simp [PyData.depthAll]
  | x :: xs => by
    have := depth_ints xs
    simp only [List.map_cons, PyData.depthAll, PyData.depth]
    omega
theorem shaped_ints (xs : List Int) : SeqAt.shaped (.list (xs.map PyData.int)) = true := by
  have h1 := depth_ints xs
  have h2 : PyData.depth (.list (xs.map PyData.int)) ≤ 64 := by
    simp only [PyData.depth]
    omega
  show (PyData.canLay0 (.list (xs.map PyData.int)) && decide (PyData.depth (.list (xs.map PyData.int)) ≤ 64)) = true
  rw [Bool.and_eq_true]
  exact ⟨by simp only [PyData.canLay0]; exact lay_ints xs, decide_eq_true h2⟩
theorem shaped_tup (xs : List Int) : SeqAt.shaped (.tuple (xs.map PyData.int)) = true := by
  have h1 := depth_ints xs
  have h2 : PyData.depth (.tuple (xs.map PyData.int)) ≤ 64 := by
    simp only [PyData.depth]
    omega
  show (PyData.canLay0 (.tuple (xs.map PyData.int)) && decide (PyData.depth (.tuple (xs.map PyData.int)) ≤ 64)) = true
  rw [Bool.and_eq_true]
  exact ⟨by simp only [PyData.canLay0]; exact lay_ints xs, decide_eq_true h2⟩
theorem eqv_ints : ∀ xs : List Int, PyData.eqvAll (xs.map PyData.int) (xs.map PyData.int) = true
  | [] => by simp [PyData.eqvAll]
  | x :: xs => by
    rw [List.map_cons, PyData.eqvAll, eqv_ints xs]
    simp [PyData.eqv]
/-- two lists of the same ints are not told apart -/
theorem neD_lists {a b : Addr} {xs : List Int} {Q : VK} (ha : SqL K H a (xs.map V.int)) (hb : SqL K H b (xs.map V.int)) (q : Q (.bl false) H) : rNeD K (.ref a) (.ref b) H Q := by
  refine ⟨_, _, .lst ha (dp_ints xs), .lst hb (dp_ints xs), shaped_ints xs, shaped_ints xs, ?_⟩
  have e : PyData.eqv (.list (xs.map PyData.int)) (.list (xs.map PyData.int)) = true := by
    rw [PyData.eqv]
    exact eqv_ints xs
  rw [e]
  exact q
theorem neD_tups {a b : Addr} {xs : List Int} {Q : VK} (ha : SqT K H a (xs.map V.int)) (hb : SqT K H b (xs.map V.int)) (q : Q (.bl false) H) : rNeD K (.ref a) (.ref b) H Q := by
  refine ⟨_, _, .tup ha (dp_ints xs), .tup hb (dp_ints xs), shaped_tup xs, shaped_tup xs, ?_⟩
  have e : PyData.eqv (.tuple (xs.map PyData.int)) (.tuple (xs.map PyData.int)) = true := by
    rw [PyData.eqv]
    exact eqv_ints xs
  rw [e]
  exact q
end
end Ms
set_option Elab.async false
set_option linter.all false
set_option maxRecDepth 100000
set_option maxHeartbeats 4000000
/-! The law. -/
namespace Ms
open PySem PySem.Spec PyProof.Rows L2
theorem LawPl.but {H H' : Hp} {b pp : Addr} {p : Pl} {ls : List (Key × V)} (h : LawPl H pp p) (e : But b H H') (hb : H b = some (.dK ls)) : LawPl H' pp p := by
  obtain ⟨ka, sa, h1, h2, h3⟩ := h
  exact ⟨ka, sa, e _ _ (fun z => by rw [← z, h1] at hb; cases hb) h1, e _ _ (fun z => by rw [← z, h2] at hb; cases hb) h2, h3.but e (fun xs q => by rw [hb] at q; cases q) fun xs q => by rw [hb] at q; cases q⟩
theorem DTab.but {H H' : Hp} {b fo : Addr} {done : List Str} {row : Str → List V} {ls : List (Key × V)} (h : DTab H fo done row) (e : But b H H') (hb : H b = some (.dK ls)) (ne : fo ≠ b) : DTab H' fo done row := by
  obtain ⟨t, h1, h2⟩ := h
  exact ⟨t, e _ _ ne h1, fun m hm => e _ _ (fun z => by have q := h2 m hm; rw [z, hb] at q; cases q) (h2 m hm)⟩
theorem SpAt.but {H H' : Hp} {b fo : Addr} {done : List Str} {xs : Str → List Int} {ls : List (Key × V)} (h : SpAt H fo done xs) (e : But b H H') (hb : H b = some (.dK ls)) (ne : fo ≠ b) : SpAt H' fo done xs := by
  obtain ⟨t, h1, h2⟩ := h
  exact ⟨t, e _ _ ne h1, fun m hm => e _ _ (fun z => by have q := h2 m hm; rw [z, hb] at q; cases q) (h2 m hm)⟩
/-- what the law's search gives -/
def SpOr (H : Hp) (sv : V) (li : Addr) (ys : List Str) (p : Pl) (lo hi : Str → Int) : Prop :=
  (sv = .non ∧ ∀ f, ¬ Ok p lo hi f) ∨ ∃ sp xs, sv = .ref sp ∧ sp ≠ li ∧ SpAt H sp ys xs ∧ (∃ f, Ok p lo hi f) ∧ ∀ n ∈ p.ns, Nums p lo hi n (xs n)
theorem SpOr.same {H H' : Hp} {sv : V} {li : Addr} {ys : List Str} {p : Pl} {lo hi : Str → Int} (h : SpOr H sv li ys p lo hi) (e : Same H H') : SpOr H' sv li ys p lo hi := h.imp id fun ⟨sp, xs, a, b, c, d⟩ => ⟨sp, xs, a, b, c.same e, d⟩
/-- what ranges_of gives -/
def TvOr (H : Hp) (tv : V) (li : Addr) (p : Pl) (lo hi : Str → Int) : Prop :=
  (tv = .non ∧ ∀ f, ¬ Ok p lo hi f) ∨ ∃ td ns l h, tv = .ref td ∧ td ≠ li ∧ DTab H td ns (limRow l h) ∧ ns.Perm p.ns ∧ (∃ f, Ok p lo hi f) ∧ ∀ n ∈ p.ns, Ext p lo hi n (l n) (h n)
theorem fine_ok {p : Pl} (h : Fine p) : PlOk p := h.toPlOk
section
variable {P : Program} {w : World} {K : PySem.W.Frag} {mg : Str → Option Value} {base : Heap} {C CM CR : Addr}
abbrev s_law : Stmt := topS 61
abbrev N_law : List Str := ["_law_script", "_law_numbers_here", "_law_limits", "_law_made_here", "_law_spans_here", "_law_name", "_law_streams", "_law_k", "_law_small", "_law_readings_here", "_law_told", "_law_plant_here", "_law_flows", "_law_one", "_law_tail", "_law_head", "_law_low", "_law_high"]
theorem sc_law : FnScope N_law ["_law_script"] (defScope s_law) := ⟨rfl, rfl, rfl, by decide +kernel, rfl, by decide +kernel, by decide +kernel⟩
def spLaw (K : PySem.W.Frag) : Sp := fun vs H Q _ => ∃ (a : Addr) (ns : List Int), vs = [.ref a] ∧ SqL K H a (ns.map V.int) ∧ ns.length ≤ 63 ∧ ∀ H', Q (.bl true) H'
abbrev LawBody (P : Program) (w : World) (K : PySem.W.Frag) (mg : Str → Option Value) (base : Heap) (f : Addr) : Prop := Body P w K mg base N_law "law" s_law f 39 (spLaw K)
set_option maxHeartbeats 16000000 in
theorem ok_law (T : Txt K mg C CM CR) {f : Addr} (c__law_numbers : Cal P w K mg base 2 "_law_numbers" (spNumbers (K := K))) (c__law_plant : Cal P w K mg base 3 "_law_plant" spLPlant) (c__law_drawn_limits : Cal P w K mg base 1 "_law_drawn_limits" spDrawn)
    (c__law_narrow : Cal P w K mg base 1 "_law_narrow" spNarrow) (c__law_made : Cal P w K mg base 5 "_law_made" (spMade C)) (c__law_spans : Cal P w K mg base 4 "_law_spans" spSpans) (c_range_within : Cal P w K mg base 8 "range_within" (spRangeW C CR))
    (c__law_readings : Cal P w K mg base 1 "_law_readings" spLRead) (c__law_limits_of : Cal P w K mg base 1 "_law_limits_of" spLLimOf) (c_ranges_of : Cal P w K mg base 9 "ranges_of" (spRangesOf C)) (c_range_of : Cal P w K mg base 9 "range_of" (spRangeOf C CR)) : LawBody P w K mg base f := by
  intro cdv A outer s H vs Q E hr h
  have hu := hu_of hr
  obtain ⟨sa, sns, rfl, hs, _, q⟩ := h
  refine ⟨_, (pss_cons (ps_set (i := 1) sc_law.nd rfl (by first | exact Or.inl rfl | exact Or.inr rfl) (pe_c c__law_numbers hr (by decide) (by rfl) (pa_cons (pv 0) (pa_cons pe_int pa_nil))))
      (pss_cut (ps_asg (pe_c c__law_plant hr (by decide) (by rfl) (pa_cons (pv 1) (pa_cons pe_int (pa_cons pe_int (pa_cons pe_int (pa_cons pe_int pa_nil)))))) (pg_tup (by rfl) (pgs_cons (pg_name (i := 11) sc_law.nd rfl (by first | exact Or.inl rfl | exact Or.inr rfl)) (pgs_cons (pg_name (i := 12) sc_law.nd rfl (by first | exact Or.inl rfl | exact Or.inr rfl)) pgs_nil))))
      (pss_cons (ps_set (i := 2) sc_law.nd rfl (by first | exact Or.inl rfl | exact Or.inr rfl) (pe_c c__law_narrow hr (by decide) (by rfl) (pa_cons (pe_c c__law_drawn_limits hr (by decide) (by rfl) (pa_cons (pv 1) (pa_cons pe_int (pa_cons (pv 11) (pa_cons (pv 12) pa_nil))))) (pa_cons (pv 1) (pa_cons pe_int pa_nil)))))
      (pss_cons (ps_set (i := 3) sc_law.nd rfl (by first | exact Or.inl rfl | exact Or.inr rfl) (pe_c c__law_made hr (by decide) (by rfl) (pa_cons (pv 11) pa_nil)))
      (pss_cut (ps_set (i := 4) sc_law.nd rfl (by first | exact Or.inl rfl | exact Or.inr rfl) (pe_c c__law_spans hr (by decide) (by rfl) (pa_cons (pv 11) (pa_cons (pv 2) pa_nil))))
      (pss_cons (ps_lock (ps_for PassesOwn.never rfl (pi_keys (pv 2)) (pg_name (i := 5) sc_law.nd rfl (by first | exact Or.inl rfl | exact Or.inr rfl))
      (pss_cons (ps_set (i := 10) sc_law.nd rfl (by first | exact Or.inl rfl | exact Or.inr rfl) (pe_c c_range_within hr (by decide) (by rfl) (pa_cons (pv 3) (pa_cons (pv 2) (pa_cons (pv 5) pa_nil)))))
      (pss_cons (ps_if (pt_cmpR op_ne (pe_cmpR op_isN (pv 10) pe_non (nomark _)) (pe_cmpR op_isN (pv 4) pe_non (nomark _)) (nomark _)) (pss_one (ps_ret pe_bl)) pss_nil)
      (pss_one (ps_if (PW.pt (pw_and (pt_cmpR op_notN (pv 10) pe_non (nomark _)) (pw_and1 (pt_cmpR (op_neD hr.units) (pe_dget hu (pv 4) (pv 5) (fun _ _ => rfl)) (pe_listRg rfl (by rfl) T.list (prg_2 (by rfl) T.range (pe_fld (pv 10) rfl) (pe_op op_add (pe_fld (pv 10) rfl) pe_int))) (nomark _))))) (pss_one (ps_ret pe_bl)) pss_nil))))))
      (pss_cons (ps_set (i := 6) sc_law.nd rfl (by first | exact Or.inl rfl | exact Or.inr rfl) (pe_lst pa_nil))
      (pss_cons (ps_for PassesOwn.never rfl (pi_range1 (by rfl) T.range (pa_cons (pe_callB call_len_seq (by rfl) T.len (by decide +kernel) (pa_cons (pe_ix ix_tup (pv 11) pe_int (fun _ _ => rfl)) pa_nil)) pa_nil)) (pg_name (i := 7) sc_law.nd rfl (by first | exact Or.inl rfl | exact Or.inr rfl))
      (pss_cons (ps_asg (pe_ix ix_list (pe_ix ix_tup (pv 11) pe_int (fun _ _ => rfl)) (pv 7) (fun _ _ => rfl)) (pg_tup (by rfl) (pgs_cons (pg_name (i := 5) sc_law.nd rfl (by first | exact Or.inl rfl | exact Or.inr rfl)) (pgs_cons (pg_name (i := 14) sc_law.nd rfl (by first | exact Or.inl rfl | exact Or.inr rfl)) (pgs_cons (pg_name (i := 15) sc_law.nd rfl (by first | exact Or.inl rfl | exact Or.inr rfl)) (pgs_cons (pg_name (i := 16) sc_law.nd rfl (by first | exact Or.inl rfl | exact Or.inr rfl)) (pgs_cons (pg_name (i := 17) sc_law.nd rfl (by first | exact Or.inl rfl | exact Or.inr rfl)) pgs_nil)))))))
      (pss_one (ps_expr (pe_bm PySem.F.plainAttrs_list PySem.F.slot_list_append PySem.F.type_list_append mt_append (pv 6) (pa_cons (pe_tup (pa_cons (pv 5) (pa_cons (pv 14) (pa_cons (pv 15) (pa_cons (pv 16) (pa_cons (pe_callB (call_min2 rfl) (by rfl) T.min (by decide +kernel) (pa_cons (pv 17) (pa_cons (pe_op op_add (pv 16) (pe_op op_mod (pe_callTy call_int1 (by rfl) T.int (by decide +kernel) (pa_cons (pe_ix ix_list (pv 1) (pe_op op_add pe_int (pv 7)) (fun _ _ => rfl)) pa_nil)) pe_int)) pa_nil))) pa_nil)))))) pa_nil))))))
      (pss_cons (ps_set (i := 8) sc_law.nd rfl (by first | exact Or.inl rfl | exact Or.inr rfl) (pe_tup (pa_cons (pe_ix ix_tup (pv 11) pe_int (fun _ _ => rfl)) (pa_cons (pv 6) pa_nil))))
      (pss_cons (ps_set (i := 9) sc_law.nd rfl (by first | exact Or.inl rfl | exact Or.inr rfl) (pe_c c__law_readings hr (by decide) (by rfl) (pa_cons (pv 1) (pa_cons pe_int (pa_cons (pv 11) (pa_cons (pv 12) pa_nil))))))
      (pss_cut (ps_set (i := 4) sc_law.nd rfl (by first | exact Or.inl rfl | exact Or.inr rfl) (pe_c c__law_spans hr (by decide) (by rfl) (pa_cons (pv 8) (pa_cons (pe_c c__law_limits_of hr (by decide) (by rfl) (pa_cons (pv 8) (pa_cons (pv 9) pa_nil))) pa_nil))))
      (pss_cut (ps_set (i := 10) sc_law.nd rfl (by first | exact Or.inl rfl | exact Or.inr rfl) (pe_c c_ranges_of hr (by decide) (by rfl) (pa_cons (pe_c c__law_made hr (by decide) (by rfl) (pa_cons (pv 8) pa_nil)) (pa_cons (pv 9) pa_nil))))
      (pss_cons (ps_if (pt_cmpR op_isN (pv 4) pe_non (nomark _)) (pss_one (ps_ret (pe_and (pe_cmpR op_isN (pv 10) pe_non (nomark _)) (pe_one (pe_callB (cr_all rfl) (by rfl) T.all (by decide +kernel) (pa_cons (pe_lock (pe_lc (own := [("_law_name", 5)]) (by rfl) sc_law.nd (pi_keys (pv 2)) (blkOk_by (own := [("_law_name", 5)]) (N := N_law) (sc := defScope s_law) (by decide +kernel)) (fun _ _ _ _ _ => (pg_name (i := 5) sc_law.nd rfl (by first | exact Or.inl rfl | exact Or.inr rfl))) (fun _ _ _ _ _ => pts_nil) (fun _ _ _ _ _ => (pe_cmpR op_isN (pe_c c_range_of hr (by decide) (by rfl) (pa_cons (pe_c c__law_made hr (by decide) (by rfl) (pa_cons (pv 8) pa_nil)) (pa_cons (pv 9) (pa_cons (pv 5) pa_nil)))) pe_non (nomark _))))) pa_nil)))))) pss_nil)
      (pss_cons (ps_lock (ps_for PassesOwn.never rfl (pi_keys (pv 2)) (pg_name (i := 5) sc_law.nd rfl (by first | exact Or.inl rfl | exact Or.inr rfl))
      (pss_cons (ps_set (i := 13) sc_law.nd rfl (by first | exact Or.inl rfl | exact Or.inr rfl) (pe_c c_range_of hr (by decide) (by rfl) (pa_cons (pe_c c__law_made hr (by decide) (by rfl) (pa_cons (pv 8) pa_nil)) (pa_cons (pv 9) (pa_cons (pv 5) pa_nil)))))
      (pss_one (ps_if (PW.pt (pw_or (pt_cmpR (op_neD hr.units) (pe_dget hu (pv 10) (pv 5) (fun _ _ => rfl)) (pe_tup (pa_cons (pe_ix ix_list (pe_dget hu (pv 4) (pv 5) (fun _ _ => rfl)) pe_int (fun _ _ => rfl)) (pa_cons (pe_ix ix_list (pe_dget hu (pv 4) (pv 5) (fun _ _ => rfl)) (pe_un un_neg pe_int) (fun _ _ => rfl)) pa_nil))) (nomark _)) (pw_or1 (pt_cmpR (op_neD hr.units) (pe_tup (pa_cons (pe_fld (pv 13) rfl) (pa_cons (pe_fld (pv 13) rfl) pa_nil))) (pe_dget hu (pv 10) (pv 5) (fun _ _ => rfl)) (nomark _))))) (pss_one (ps_ret pe_bl)) pss_nil)))))
      (pss_one (ps_ret (pe_cmpR op_eq (pe_callB call_lenD (by rfl) T.len (by decide +kernel) (pa_cons (pv 10) pa_nil)) (pe_callB call_lenD (by rfl) T.len (by decide +kernel) (pa_cons (pv 2) pa_nil)) (nomark _)))))))))))))))))), ?_⟩
  refine ⟨_, rfl, sa, sns, rfl, hs, fun H1 na s1 nna hn => ?_⟩
  -- the plant
  refine ⟨fun σ' H' => ∃ pp fl p f, σ' = [some (.ref sa), some (.ref na), none, none, none, none, none, none, none, none, none, some (.ref pp), some (.ref fl), none, none, none, none, none] ∧ Drawn H' na pp fl p f, ?_, ?_⟩
  · exact ⟨.ref na, rfl, na, rfl, hn, fun H2 r pp fl p f s2 nr hr lp hf fine n6 bf => ⟨r, _, rfl, SqT.of hr, rfl, _, _, rfl, _, _, rfl, rfl, pp, fl, p, f, rfl, ⟨hn.same s2, lp, hf, fine, n6, bf⟩⟩⟩
  rintro σ H2 ⟨pp, fl, p, f, rfl, d2⟩
  have fine := d2.fine
  have F := fine_ok fine
  have n6 := d2.few
  refine ⟨.ref na, rfl, .ref pp, rfl, .ref fl, rfl, na, pp, fl, p, f, rfl, d2, fun H3 l1 lo hi0 s3 nl1 dt3 sm => ?_⟩
  refine ⟨.ref na, rfl, l1, na, p.ns, lo, hi0, rfl, d2.num.same s3, dt3, F.nd, n6, sm, fun H4 li ys hi s4 nli dt4 py nar => ?_⟩
  have d4 := (d2.same s3).same s4
  refine ⟨.ref pp, rfl, pp, p, rfl, d4.pl, fine, fun H5 ma ks ns s5 nma pk pn pl5 => ?_⟩
  have d5 := d4.same s5
  have dt5 := dt4.same s5
  have y6 : ys.length ≤ 6 := by
    rw [py.length_eq]
    exact n6
  have near : Near ys lo hi := fun n hn => by
    obtain ⟨⟨a1, a2, a3, a4⟩, a5⟩ := nar n (py.mem_iff.mp hn)
    exact ⟨⟨by omega, by omega, by omega, by omega⟩, a5⟩
  have FO : PlOk (p.order ks ns) := fine_ok (fine.order pk pn)
  have yns : ys.Perm ns := py.trans pn.symm
  refine ⟨fun σ' H' => ∃ sv, σ' = [some (.ref sa), some (.ref na), some (.ref li), some (.ref ma), some sv, none, none, none, none, none, none, some (.ref pp), some (.ref fl), none, none, none, none, none] ∧ Same H5 H' ∧ SpOr H' sv li ys p lo hi, ?_, ?_⟩
  · refine ⟨.ref pp, rfl, .ref li, rfl, pp, li, p, ys, lo, hi, rfl, d5.pl, F, dt5, py, y6, near, fun H6 s6 no => ⟨_, rfl, s6, .inl ⟨rfl, no⟩⟩, fun H6 sp xs s6 nsp spat ex nums => ⟨_, rfl, s6, .inr ⟨sp, xs, rfl, fun z => ?_, spat, ex, nums⟩⟩⟩
    obtain ⟨t, a, _⟩ := dt5
    rw [z, a] at nsp
    cases nsp
  rintro σ H6 ⟨sv, rfl, s56, so6⟩
  have d6 := d5.same s56
  have pl6 := pl5.same s56
  obtain ⟨t, hl1, hl2⟩ := dt5.same s56
  -- the ranges within the limits
  refine ⟨li, _, hl1, trivial, fun od => ?_⟩
  have b7 : But li H6 (upd H6 li (.frz od (.dK (kvs ys fun m => V.ref (t m))))) := But.upd _ _
  have hli7 : upd H6 li (.frz od (.dK (kvs ys fun m => V.ref (t m)))) li = some (.frz od (.dK (kvs ys fun m => V.ref (t m)))) := upd_same
  have pl7 := pl6.but b7 hl1
  have lim7 : LimAt (upd H6 li (.frz od (.dK (kvs ys fun m => V.ref (t m))))) li ys lo hi := ⟨t, .inr ⟨od, hli7⟩, fun n hn => b7 _ _ (fun z => by have e := hl2 n hn; rw [z, hl1] at e; cases e) (hl2 n hn)⟩
  have so7 : SpOr (upd H6 li (.frz od (.dK (kvs ys fun m => V.ref (t m))))) sv li ys p lo hi := so6.imp id fun ⟨sp, xs, a, b, c, e⟩ => ⟨sp, xs, a, b, c.but b7 hl1 b, e⟩
  generalize upd H6 li (.frz od (.dK (kvs ys fun m => V.ref (t m)))) = H7 at b7 hli7 pl7 lim7 so7 ⊢
  refine ⟨.ref li, rfl, li, od, rfl, .inl ⟨_, hli7, for_it walk_keys (fun i σ H' => ∃ y5 y10, σ = [some (.ref sa), some (.ref na), some (.ref li), some (.ref ma), some sv, y5, none, none, none, none, y10, some (.ref pp), some (.ref fl), none, none, none, none, none] ∧ Same H7 H') ⟨none, none, rfl, fun b o e => e⟩ (fun i σ H' _ z => by obtain ⟨_, _, _, s⟩ := z; exact s _ _ hli7) ?_ ?_⟩⟩
  · rintro i v σ H8 H9 hi8 ⟨y5, y10, rfl, s8⟩ ⟨rfl, k, v2, hv, rfl⟩
    obtain ⟨n, hn1, rfl, _⟩ := kvs_get hv
    have my := List.mem_of_getElem? hn1
    have mp := py.mem_iff.mp my
    have mn := yns.mem_iff.mp my
    refine ⟨_, rfl, .ref li, rfl, _, rfl, ma, li, p.order ks ns, ys, lo, hi, n, rfl, pl7.same s8, FO, lim7.same s8, yns, mn, fun H10 s10 no => ?_, fun H10 r dx fs l h s10 nr hr rg ex => ?_⟩
    · rcases so7 with ⟨rfl, nok⟩ | ⟨sp, xs, rfl, ne, spat, ⟨f0, ok0⟩, nums⟩
      · exact ⟨_, rfl, rfl, _, rfl, rfl, rfl, _, rfl, iteNS rfl ⟨_, rfl, rfl, _, rfl, iteNS rfl (iteF ⟨_, _, rfl, s8.trans s10⟩)⟩⟩
      · exact absurd ((ok_order pk pn).mpr ok0) (no f0)
    · rcases so7 with ⟨rfl, nok⟩ | ⟨sp, xs, rfl, ne, spat, ⟨f0, ok0⟩, nums⟩
      · obtain ⟨f1, ok1, _⟩ := ex.low
        exact absurd ((ok_order pk pn).mp ok1) (nok f1)
      · have ex' := ext_order pk pn ex
        have le := ext_le mp ex'
        have nb := near n my
        have all := nums_all F mp (nums n mp) ex'
        obtain ⟨tx, hx1, hx2⟩ := (spat.same s8).same s10
        have hxn := hx2 n my
        rw [all] at hxn
        refine ⟨_, rfl, rfl, _, rfl, rfl, rfl, _, rfl, iteNS rfl ⟨_, rfl, rfl, _, rfl, iteT ?_⟩⟩
        refine ⟨.ref sp, rfl, _, rfl, sp, _, rfl, dget (Rd.of hx1) my, _, rfl, r, CR, dx, fs, _, rfl, hr, T.clR, T.nLo, rg.low, _, rfl, r, CR, dx, fs, _, rfl, hr, T.clR, T.nHi, rg.high, _, _, rfl, rfl, l, h + 1, rfl, rfl, ⟨by omega, by omega, by omega, by omega, by omega⟩, fun q1 hq1 => ?_⟩
        have sq := same_upd (o := .lst (rgV l (h + 1))) hq1
        refine neD_lists (xs := upTo l (h + 1 - l).toNat) (SqL.of (sq _ _ hxn)) (SqL.of (by rw [← upTo_rgV]; exact upd_same)) ⟨_, rfl, iteF ⟨_, _, rfl, (s8.trans s10).trans sq⟩⟩
  rintro σ H8 ⟨y5, y10, rfl, s8⟩
  refine ⟨s8 _ _ hli7, ?_⟩
  have s11 : Same H6 (upd H8 li (.dK (kvs ys fun m => V.ref (t m)))) := fun b o e => by
    by_cases c : b = li
    · rw [c, upd_same, ← hl1, ← c]
      exact e
    · rw [upd_ne c]
      exact s8 _ _ (b7 _ _ c e)
  have d11 := d6.same s11
  have hl11 : upd H8 li (.dK (kvs ys fun m => V.ref (t m))) li = some (.dK (kvs ys fun m => V.ref (t m))) := upd_same
  generalize upd H8 li (.dK (kvs ys fun m => V.ref (t m))) = H11 at d11 hl11 ⊢
  -- the small plant
  refine ⟨Nat.zero_le _, fun st hst => ?_⟩
  have s12 := same_upd (o := .lst []) hst
  obtain ⟨ka, sb, g1, g2, ts, g3, g4⟩ := d11.pl
  let A : Str → Int → Int → Prop := fun n l u => l = p.bl n ∧ p.bl n ≤ u ∧ u ≤ p.bh n ∧ u ≤ p.bl n + 2
  refine ⟨.ref pp, rfl, pp, _, 1, .ref sb, rfl, rfl, SqT.of (s12 _ _ g1), rfl, sb, _, rfl, .inl (SqL.of (s12 _ _ g3)), _, rfl, by omega, by rw [List.length_map]; omega, ?_⟩
  rw [List.length_map]
  refine for_range (fun i σ H' => ∃ (y5 y7 y14 y15 y16 y17 : Option V) (row : Str → List V), σ = [some (.ref sa), some (.ref na), some (.ref li), some (.ref ma), some sv, y5, some (.ref st), y7, none, none, y10, some (.ref pp), some (.ref fl), none, y14, y15, y16, y17] ∧ Same H11 H' ∧ LTab H' st (p.ns.take i) row ∧ ∀ n ∈ p.ns.take i, ∃ l u, row n = [.str n, .str (p.tl n), .str (p.hd n), .int l, .int u] ∧ A n l u)
    ⟨_, _, _, _, _, _, fun _ => [], rfl, s12, ⟨fun _ => 0, upd_same, fun m h => (nomatch h)⟩, fun m h => (nomatch h)⟩ ?_ ?_
  · rintro i σ H13 hi13 ⟨y5, y7, y14, y15, y16, y17, row, rfl, s13, ⟨tt, h13, ht13⟩, hrow⟩
    have il : i < p.ns.length := by
      have := hi13
      omega
    obtain ⟨n, hn1⟩ : ∃ n, p.ns[i]? = some n := ⟨p.ns[i], List.getElem?_eq_getElem il⟩
    have mn := List.mem_of_getElem? hn1
    have an := ref_at (t := ts) hn1
    have new := take_new F.nd hn1
    have ek : p.ns.take (i + 1) = p.ns.take i ++ [n] := by rw [List.take_add_one, hn1]; rfl
    have b := fine.bd n mn
    obtain ⟨zs, e, ey, ex, e0, e1⟩ := (d11.num.same s13).get (i := 84 + (0 + (i : Int))) (by omega) (by omega)
    refine ⟨.ref pp, rfl, pp, _, 1, .ref sb, rfl, rfl, SqT.of (s13 _ _ g1), rfl, _, rfl, sb, _, _, .ref (ts n), rfl, rfl, SqL.of (s13 _ _ g3), an, ts n, _, rfl, SqT.of (s13 _ _ (g4 n mn)), rfl, _, _, rfl, _, _, rfl, _, _, rfl, _, _, rfl, _, _, rfl, rfl, ?_⟩
    refine ⟨.ref st, rfl, .inl ⟨rfl, _, SqL.of h13⟩, _, rfl, _, rfl, _, rfl, _, rfl, _, rfl, _, rfl, .ref na, rfl, _, rfl, _, _, rfl, rfl, na, zs, _, _, rfl, rfl, SqL.of ey, ex, .inl ⟨_, rfl, _, _, rfl, rfl, (by show (0 : Int) < 3; decide), _, _, rfl, rfl, _, _, rfl, (by show 5 ≤ sizeLine; decide), fun q1 hq1 => ⟨st, _, _, rfl, rfl, same_upd hq1 _ _ h13, sz_lt (by rw [List.length_map, List.length_take]; omega), ?_⟩⟩⟩
    refine ⟨_, _, _, _, _, _, rset row n [.str n, .str (p.tl n), .str (p.hd n), .int (p.bl n), .int (if p.bl n + e % 3 < p.bh n then p.bl n + e % 3 else p.bh n)], rfl, (s13.trans (same_upd hq1)).mut hst, ?_, ?_⟩
    · rw [ek]
      exact ltab_put h13 ht13 new hq1
    · rw [ek]
      refine rset_all (A := fun n r => ∃ l u, r = [.str n, .str (p.tl n), .str (p.hd n), .int l, .int u] ∧ A n l u) hrow ⟨_, _, rfl, rfl, ?_, ?_, ?_⟩
      · split <;> omega
      · split <;> omega
      · split <;> omega
  rintro σ H13 ⟨y5, y7, y14, y15, y16, y17, row, rfl, s13, tab, hrow⟩
  have et : p.ns.take ((p.ns.length : Nat) : Int).toNat = p.ns := List.take_of_length_le (by omega)
  rw [et] at tab hrow
  obtain ⟨bl, bh, r1, r2⟩ := rows5 hrow
  obtain ⟨tt, h13, ht13⟩ := tab
  let p2 : Pl := ⟨p.ks, p.ns, p.tl, p.hd, bl, bh⟩
  have bd2 : ∀ n ∈ p2.ns, 0 ≤ p2.bl n ∧ p2.bl n ≤ p2.bh n ∧ p2.bh n ≤ 1000000 := fun n hn => by
    obtain ⟨a1, a2, a3, _⟩ := r2 n hn
    have b := fine.bd n hn
    show 0 ≤ bl n ∧ bl n ≤ bh n ∧ bh n ≤ 1000000
    omega
  have fine2 : Fine p2 := { kd := F.kd, nd := F.nd, ends := F.ends, kl := F.kl, nl := F.nl, some := fine.some, gk := fine.gk, gn := fine.gn, bd := bd2 }
  have F2 := fine_ok fine2
  refine ⟨.ref pp, rfl, pp, _, 0, .ref ka, rfl, rfl, SqT.of (s13 _ _ g1), rfl, _, rfl, (by show 2 ≤ sizeLine; decide), fun sm hsm => ?_⟩
  have s14 := same_upd (o := .tup [.ref ka, .ref st]) hsm
  have lp14 : LawPl (upd H13 sm (.tup [.ref ka, .ref st])) sm p2 := ⟨ka, st, upd_same, s14 _ _ (s13 _ _ g2), tt, s14 _ _ h13, fun n hn => s14 _ _ (by
    show H13 (tt n) = some (.tup [.str n, .str (p.tl n), .str (p.hd n), .int (bl n), .int (bh n)])
    rw [← r1 n hn]
    exact ht13 n hn)⟩
  have d14 := (d11.same s13).same s14
  have hl14 := s14 _ _ (s13 _ _ hl11)
  generalize upd H13 sm (.tup [.ref ka, .ref st]) = H14 at lp14 d14 hl14 ⊢
  refine ⟨_, rfl, _, rfl, _, rfl, na, pp, fl, p, f, rfl, d14, fun H15 rd lr nu to s15 nrd lim15 R => ?_⟩
  have R2 : RdgOk p2 lr nu to := ⟨R.sub, R.few, R.bd⟩
  have lp15 := lp14.same s15
  have hl15 := s15 _ _ hl14
  have rdli : rd ≠ li := (ne_of_none hl14 nrd).symm
  let rlo := rLo p2 lr nu to
  let rhi := rHi p2 lr nu to
  have near2 : Near p2.ns rlo rhi := fun n hn => by
    obtain ⟨a1, a2, a3, a4⟩ := r2 n hn
    have b := fine2.bd n hn
    have b1 : 0 ≤ bl n ∧ bl n ≤ bh n ∧ bh n ≤ 1000000 := b
    show (-10000000 ≤ rLo p2 lr nu to n ∧ rLo p2 lr nu to n ≤ 10000000 ∧ -10000000 ≤ rHi p2 lr nu to n ∧ rHi p2 lr nu to n ≤ 10000000) ∧ rHi p2 lr nu to n ≤ rLo p2 lr nu to n + 2
    have e1 : bl n ≤ rLo p2 lr nu to n ∧ rLo p2 lr nu to n ≤ 1000000 := by
      unfold rLo
      show bl n ≤ (if n ∈ lr then (if nu n - to n > bl n then nu n - to n else bl n) else bl n) ∧ (if n ∈ lr then (if nu n - to n > bl n then nu n - to n else bl n) else bl n) ≤ 1000000
      by_cases c : n ∈ lr
      · have := R.bd n c
        rw [if_pos c]
        split <;> omega
      · rw [if_neg c]
        omega
    have e2 : rHi p2 lr nu to n ≤ bh n ∧ 0 ≤ rHi p2 lr nu to n := by
      unfold rHi
      show (if n ∈ lr then (if nu n + to n < bh n then nu n + to n else bh n) else bh n) ≤ bh n ∧ 0 ≤ (if n ∈ lr then (if nu n + to n < bh n then nu n + to n else bh n) else bh n)
      by_cases c : n ∈ lr
      · have := R.bd n c
        rw [if_pos c]
        split <;> omega
      · rw [if_neg c]
        omega
    exact ⟨⟨by omega, by omega, by omega, by omega⟩, by omega⟩
  -- the law's search
  refine ⟨fun σ' H' => ∃ sv2, σ' = [some (.ref sa), some (.ref na), some (.ref li), some (.ref ma), some sv2, y5, some (.ref st), y7, some (.ref sm), some (.ref rd), y10, some (.ref pp), some (.ref fl), none, y14, y15, y16, y17] ∧ Same H15 H' ∧ SpOr H' sv2 li p2.ns p2 rlo rhi, ?_, ?_⟩
  · refine ⟨_, rfl, _, rfl, _, rfl, sm, rd, p2, lr, nu, to, rfl, lp15, F2, lim15, fun H16 l2 s16 nl2 dt16 => ?_⟩
    refine ⟨sm, l2, p2, p2.ns, rlo, rhi, rfl, lp15.same s16, F2, dt16, List.Perm.refl _, n6, near2, fun H17 s17 no => ⟨_, rfl, s16.trans s17, .inl ⟨rfl, no⟩⟩, fun H17 sp xs s17 nsp spat ex nums => ⟨_, rfl, s16.trans s17, .inr ⟨sp, xs, rfl, (ne_of_none (s16 _ _ hl15) nsp).symm, spat, ex, nums⟩⟩⟩
  rintro σ H16 ⟨sv2, rfl, s16, so16⟩
  have lp16 := lp15.same s16
  have lim16 := lim15.same s16
  have hl16 := s16 _ _ hl15
  have RO : ∀ {ks ns : List Str}, ns.Perm p2.ns → RdgOk (p2.order ks ns) lr nu to := fun pn => ⟨fun n hn => pn.mem_iff.mpr (R2.sub n hn), R2.few, R2.bd⟩
  -- ranges_of
  refine ⟨fun σ' H' => ∃ tv, σ' = [some (.ref sa), some (.ref na), some (.ref li), some (.ref ma), some sv2, y5, some (.ref st), y7, some (.ref sm), some (.ref rd), some tv, some (.ref pp), some (.ref fl), none, y14, y15, y16, y17] ∧ Same H16 H' ∧ TvOr H' tv li p2 rlo rhi, ?_, ?_⟩
  · refine ⟨_, rfl, sm, p2, rfl, lp16, fine2, fun H17 m2 ks2 ns2 s17 nm2 pk2 pn2 pl17 => ?_⟩
    refine ⟨_, rfl, m2, rd, p2.order ks2 ns2, lr, nu, to, rfl, pl17, fine_ok (fine2.order pk2 pn2), lim16.same s17, RO pn2, fun H18 s18 no => ⟨_, rfl, s17.trans s18, .inl ⟨rfl, fun f hf => no f ((ok_order pk2 pn2).mpr hf)⟩⟩, fun H18 td l h s18 ntd ltd _ ⟨kl, hkl⟩ ⟨f0, ok0⟩ ex => ?_⟩
    obtain ⟨t2, rd2, ht2⟩ := ltd
    have e2 : H18 td = some (.dK (kvs ns2 fun n => V.ref (t2 n))) := by
      rcases rd2 with e | ⟨o, e⟩
      · exact e
      · rw [hkl] at e
        cases e
    refine ⟨_, rfl, s17.trans s18, .inr ⟨td, ns2, l, h, rfl, (ne_of_none (s17 _ _ hl16) ntd).symm, ⟨t2, e2, ht2⟩, pn2, ⟨f0, (ok_order pk2 pn2).mp ok0⟩, fun n hn => ext_order pk2 pn2 (ex n (pn2.mem_iff.mpr hn))⟩⟩
  rintro σ H17 ⟨tv, rfl, s17, tv17⟩
  have lp17 := lp16.same s17
  have lim17 := lim16.same s17
  have hl17 := s17 _ _ hl16
  have so17 := so16.same s17
  -- the locked limits
  have bL : ∀ od : Obj, But li H17 (upd H17 li (.frz od (.dK (kvs ys fun m => V.ref (t m))))) := fun od => But.upd _ _
  have lpL : ∀ od : Obj, LawPl (upd H17 li (.frz od (.dK (kvs ys fun m => V.ref (t m))))) sm p2 := fun od => lp17.but (bL od) hl17
  have limL : ∀ od : Obj, LimAt (upd H17 li (.frz od (.dK (kvs ys fun m => V.ref (t m))))) rd lr nu to := fun od => lim17.but (bL od) hl17 rdli
  have hliL : ∀ od : Obj, upd H17 li (.frz od (.dK (kvs ys fun m => V.ref (t m)))) li = some (.frz od (.dK (kvs ys fun m => V.ref (t m)))) := fun od => upd_same
  rcases so17 with ⟨rfl, nok⟩ | ⟨sp, xs, rfl, nesp, spat, ⟨f0, ok0⟩, nums⟩
  · -- no balanced flows
    have etv : tv = .non := by
      rcases tv17 with ⟨e, _⟩ | ⟨td, ns2, l, h, _, _, _, _, ⟨f1, ok1⟩, _⟩
      · exact e
      · exact absurd ok1 (nok f1)
    subst etv
    refine ⟨_, rfl, rfl, _, rfl, iteT ⟨_, rfl, rfl, _, rfl, iteT ?_⟩⟩
    refine ⟨li, _, hl17, trivial, fun od => ?_⟩
    have lpo := lpL od
    have limo := limL od
    have hlo := hliL od
    generalize upd H17 li (.frz od (.dK (kvs ys fun m => V.ref (t m)))) = HL at lpo limo hlo ⊢
    refine ⟨.ref li, rfl, li, od, rfl, .inl ⟨_, hlo, fun D hD => ?_⟩⟩
    refine lc_it walk_keys (LcP HL D fun i acc _ => acc = (List.replicate i true).map V.bl) (LcP.start hD rfl) (fun i H' _ z => z.1 _ _ hlo) ?_ ?_
    · rintro i v H18 H19 hi18 ⟨s18, acc, hc, rfl⟩ ⟨rfl, k, v2, hv, rfl⟩
      obtain ⟨n, hn1, rfl, _⟩ := kvs_get hv
      rw [kvs_len] at hi18
      have mp := py.mem_iff.mp (List.mem_of_getElem? hn1)
      refine ⟨rfl, _, rfl, sm, p2, rfl, lpo.same s18, fine2, fun H20 m3 ks3 ns3 s20 nm3 pk3 pn3 pl3 => ?_⟩
      refine ⟨_, rfl, _, rfl, m3, rd, p2.order ks3 ns3, lr, nu, to, n, rfl, pl3, fine_ok (fine2.order pk3 pn3), (limo.same s18).same s20, RO pn3, pn3.mem_iff.mpr mp, fun H21 s21 no => ⟨rfl, LcP.put hD ((s18.trans s20).trans s21) (s21 _ _ (s20 _ _ hc)) (sz_lt ?_) ?_⟩, fun H21 r dx fs l h s21 nr hr rg ex => ?_⟩
      · rw [List.length_map, List.length_replicate]
        omega
      · show _ ++ [V.bl true] = _
        rw [← List.map_singleton, ← List.map_append, rep_snoc]
      · obtain ⟨f1, ok1, _⟩ := ex.low
        exact absurd ((ok_order pk3 pn3).mp ok1) (nok f1)
    · rintro H18 ⟨s18, acc, hc, rfl⟩
      have dli : D ≠ li := fun z => by rw [z, hlo] at hD; cases hD
      refine ⟨s18 _ _ hlo, D, _, rfl, .inl (.inl (by rw [upd_ne dli]; exact hc)), ?_⟩
      rw [all_rep]
      exact q _
  · -- balanced flows
    rcases tv17 with ⟨_, nok⟩ | ⟨td, ns2, l, h, rfl, netd, dtt, pn2, _, ext⟩
    · exact absurd ok0 (nok f0)
    refine ⟨_, rfl, rfl, _, rfl, iteF ?_⟩
    refine ⟨li, _, hl17, trivial, fun od => ?_⟩
    have lpo := lpL od
    have limo := limL od
    have hlo := hliL od
    have spo := spat.but (bL od) hl17 nesp
    have dto := dtt.but (bL od) hl17 netd
    have bo := bL od
    generalize upd H17 li (.frz od (.dK (kvs ys fun m => V.ref (t m)))) = HL at lpo limo hlo spo dto bo ⊢
    refine ⟨.ref li, rfl, li, od, rfl, .inl ⟨_, hlo, for_it walk_keys (fun i σ H' => ∃ y5 y13, σ = [some (.ref sa), some (.ref na), some (.ref li), some (.ref ma), some (.ref sp), y5, some (.ref st), y7, some (.ref sm), some (.ref rd), some (.ref td), some (.ref pp), some (.ref fl), y13, y14, y15, y16, y17] ∧ Same HL H') ⟨_, _, rfl, fun b o e => e⟩ (fun i σ H' _ z => by obtain ⟨_, _, _, s⟩ := z; exact s _ _ hlo) ?_ ?_⟩⟩
    · rintro i v σ H18 H19 hi18 ⟨y5', y13, rfl, s18⟩ ⟨rfl, k, v2, hv, rfl⟩
      obtain ⟨n, hn1, rfl, _⟩ := kvs_get hv
      have mp := py.mem_iff.mp (List.mem_of_getElem? hn1)
      refine ⟨_, rfl, sm, p2, rfl, lpo.same s18, fine2, fun H20 m3 ks3 ns3 s20 nm3 pk3 pn3 pl3 => ?_⟩
      refine ⟨_, rfl, _, rfl, m3, rd, p2.order ks3 ns3, lr, nu, to, n, rfl, pl3, fine_ok (fine2.order pk3 pn3), (limo.same s18).same s20, RO pn3, pn3.mem_iff.mpr mp, fun H21 s21 no => absurd ((ok_order pk3 pn3).mpr ok0) (no f0), fun H21 r dx fs l' h' s21 nr hr rg ex => ?_⟩
      have ex2 : Ext p2 rlo rhi n l' h' := ext_order pk3 pn3 ex
      have ex1 := ext n mp
      obtain ⟨e1, e2⟩ := ext_one ex1 ex2
      have le := ext_le (p := p2) mp ex1
      have all := nums_all (p := p2) F2 mp (nums n mp) ex1
      have sL := (s18.trans s20).trans s21
      obtain ⟨tx, hx1, hx2⟩ := spo.same sL
      obtain ⟨tq, hq1, hq2⟩ := dto.same sL
      have hxn := hx2 n mp
      rw [all] at hxn
      have hqn := hq2 n (pn2.mem_iff.mpr mp)
      have f1 := upTo_first (l := l n) (h := h n) le.2.1
      have f2 := upTo_last (l := l n) (h := h n) le.2.1
      refine ⟨.ref td, rfl, _, rfl, td, _, rfl, dget (Rd.of hq1) (pn2.mem_iff.mpr mp), .ref sp, rfl, _, rfl, sp, _, rfl, dget (Rd.of hx1) mp, tx n, _, 0, .int (l n), rfl, rfl, SqL.of hxn, f1, .ref sp, rfl, _, rfl, sp, _, rfl, dget (Rd.of hx1) mp, 1, rfl, tx n, _, _, .int (h n), rfl, rfl, SqL.of hxn, f2, (by show 2 ≤ sizeLine; decide), fun q1 hq1' => ?_⟩
      have sq1 := same_upd (o := .tup [.int (l n), .int (h n)]) hq1'
      refine neD_tups (xs := [l n, h n]) (SqT.of (sq1 _ _ hqn)) (SqT.of upd_same) ⟨_, rfl, iteF ?_⟩
      refine ⟨_, rfl, r, CR, dx, fs, _, rfl, sq1 _ _ hr, T.clR, T.nLo, rg.low, _, rfl, r, CR, dx, fs, _, rfl, sq1 _ _ hr, T.clR, T.nHi, rg.high, (by show 2 ≤ sizeLine; decide), fun q2 hq2' => ?_⟩
      have sq2 := same_upd (o := .tup [.int l', .int h']) hq2'
      refine ⟨.ref td, rfl, _, rfl, td, _, rfl, dget (Rd.of (sq2 _ _ (sq1 _ _ hq1))) (pn2.mem_iff.mpr mp), ?_⟩
      refine neD_tups (xs := [l n, h n]) (SqT.of (by rw [e1, e2]; exact upd_same)) (SqT.of (sq2 _ _ (sq1 _ _ hqn))) ⟨_, rfl, iteF ⟨_, _, rfl, ((sL.trans sq1).trans sq2)⟩⟩
    · rintro σ H18 ⟨y5', y13, rfl, s18⟩
      refine ⟨s18 _ _ hlo, ?_⟩
      obtain ⟨tq, hq1, _⟩ := dto.same s18
      refine ⟨.ref td, rfl, td, _, rfl, by rw [upd_ne netd]; exact hq1, .ref li, rfl, li, _, rfl, upd_same, rfl, ?_⟩
      rw [kvs_len, kvs_len, pn2.length_eq, py.length_eq]
      show Q (.bl (decide (V.int (p.ns.length : Nat) = V.int (p.ns.length : Nat)))) _
      rw [decide_eq_true rfl]
      exact q _
end
end Ms
set_option Elab.async false
set_option linter.all false
set_option maxRecDepth 100000
set_option maxHeartbeats 16000000
/-! What the top has left. -/
namespace Ms
open PySem PySem.Spec PyProof.Rows L2
theorem all_law {l : PySem.W.OpenLaw} {w : World} {K : PySem.W.Frag} {h : Heap} {mg : Str → Option Value} {fa C CM CR fi fn1 fn2 p1 p2 e1 e2 fM fR : Addr} {f_is_name f_are_names f_is_stream f_check_flows f_lacks f_lines_of f_arcs_of f_way_between f_way_back f_push f_push_all f_leading_to f_led_from f_come_to f_check_limits f_crossed f_missing_of f_least_missing f_check_readings f_limits_of f_flows_within f_pushed_to f_range_within f_range_of f_ranges_of f__law_row f__law_numbers f__law_names f__law_lines f__law_rounds f__law_plant f__law_made f__law_drawn_limits f__law_readings f__law_limits_of f__law_left f__law_balanced f__law_every f__law_all_balanced f__law_narrow f__law_spans f_law : Addr} {g_is_name g_are_names g_is_stream g_check_flows g_lacks g_lines_of g_arcs_of g_way_between g_way_back g_push g_push_all g_leading_to g_led_from g_come_to g_check_limits g_crossed g_missing_of g_least_missing g_check_readings g_limits_of g_flows_within g_pushed_to g_range_within g_range_of g_ranges_of g__law_row g__law_numbers g__law_names g__law_lines g__law_rounds g__law_plant g__law_made g__law_drawn_limits g__law_readings g__law_limits_of g__law_left g__law_balanced g__law_every g__law_all_balanced g__law_narrow g__law_spans g_law gi gn1 gn2 ge1 ge2 gM gR : FuncData} (X : K.In h) (G : h.Ns mainGlobals mg) (hfa : mg "law" = some (.ref fa))
    (d_is_name : DefIn K mg "is_name" s_is_name f_is_name g_is_name)
    (d_are_names : DefIn K mg "are_names" s_are_names f_are_names g_are_names)
    (d_is_stream : DefIn K mg "is_stream" s_is_stream f_is_stream g_is_stream)
    (d_check_flows : DefIn K mg "check_flows" s_check_flows f_check_flows g_check_flows)
    (d_lacks : DefIn K mg "lacks" s_lacks f_lacks g_lacks)
    (d_lines_of : DefIn K mg "lines_of" s_lines_of f_lines_of g_lines_of)
    (d_arcs_of : DefIn K mg "arcs_of" s_arcs_of f_arcs_of g_arcs_of)
    (d_way_between : DefIn K mg "way_between" s_way_between f_way_between g_way_between)
    (d_way_back : DefIn K mg "way_back" s_way_back f_way_back g_way_back)
    (d_push : DefIn K mg "push" s_push f_push g_push)
    (d_push_all : DefIn K mg "push_all" s_push_all f_push_all g_push_all)
    (d_leading_to : DefIn K mg "leading_to" s_leading_to f_leading_to g_leading_to)
    (d_led_from : DefIn K mg "led_from" s_led_from f_led_from g_led_from)
    (d_come_to : DefIn K mg "come_to" s_come_to f_come_to g_come_to)
    (d_check_limits : DefIn K mg "check_limits" s_check_limits f_check_limits g_check_limits)
    (d_crossed : DefIn K mg "crossed" s_crossed f_crossed g_crossed)
    (d_missing_of : DefIn K mg "missing_of" s_missing_of f_missing_of g_missing_of)
    (d_least_missing : DefIn K mg "least_missing" s_least_missing f_least_missing g_least_missing)
    (d_check_readings : DefIn K mg "check_readings" s_check_readings f_check_readings g_check_readings)
    (d_limits_of : DefIn K mg "limits_of" s_limits_of f_limits_of g_limits_of)
    (d_flows_within : DefIn K mg "flows_within" s_flows_within f_flows_within g_flows_within)
    (d_pushed_to : DefIn K mg "pushed_to" s_pushed_to f_pushed_to g_pushed_to)
    (d_range_within : DefIn K mg "range_within" s_range_within f_range_within g_range_within)
    (d_range_of : DefIn K mg "range_of" s_range_of f_range_of g_range_of)
    (d_ranges_of : DefIn K mg "ranges_of" s_ranges_of f_ranges_of g_ranges_of)
    (d__law_row : DefIn K mg "_law_row" s__law_row f__law_row g__law_row)
    (d__law_numbers : DefIn K mg "_law_numbers" s__law_numbers f__law_numbers g__law_numbers)
    (d__law_names : DefIn K mg "_law_names" s__law_names f__law_names g__law_names)
    (d__law_lines : DefIn K mg "_law_lines" s__law_lines f__law_lines g__law_lines)
    (d__law_rounds : DefIn K mg "_law_rounds" s__law_rounds f__law_rounds g__law_rounds)
    (d__law_plant : DefIn K mg "_law_plant" s__law_plant f__law_plant g__law_plant)
    (d__law_made : DefIn K mg "_law_made" s__law_made f__law_made g__law_made)
    (d__law_drawn_limits : DefIn K mg "_law_drawn_limits" s__law_drawn_limits f__law_drawn_limits g__law_drawn_limits)
    (d__law_readings : DefIn K mg "_law_readings" s__law_readings f__law_readings g__law_readings)
    (d__law_limits_of : DefIn K mg "_law_limits_of" s__law_limits_of f__law_limits_of g__law_limits_of)
    (d__law_left : DefIn K mg "_law_left" s__law_left f__law_left g__law_left)
    (d__law_balanced : DefIn K mg "_law_balanced" s__law_balanced f__law_balanced g__law_balanced)
    (d__law_every : DefIn K mg "_law_every" s__law_every f__law_every g__law_every)
    (d__law_all_balanced : DefIn K mg "_law_all_balanced" s__law_all_balanced f__law_all_balanced g__law_all_balanced)
    (d__law_narrow : DefIn K mg "_law_narrow" s__law_narrow f__law_narrow g__law_narrow)
    (d__law_spans : DefIn K mg "_law_spans" s__law_spans f__law_spans g__law_spans)
    (d_law : DefIn K mg "law" s_law f_law g_law)
    (aC : PySem.W.nsIn K mainGlobals "Plant" = some (some (.ref C)))
    (aCM : PySem.W.nsIn K mainGlobals "Missing" = some (some (.ref CM)))
    (aCR : PySem.W.nsIn K mainGlobals "Range" = some (some (.ref CR)))
    (dI : MethIn K C "__init__" "Plant.__init__" s_Plant___init__ fi gi)
    (d1 : MethIn K C "stream_names" "Plant.stream_names" s_Plant_stream_names fn1 gn1)
    (d2 : MethIn K C "stream_named" "Plant.stream_named" s_Plant_stream_named fn2 gn2)
    (dM : MethIn K CM "__init__" "Missing.__init__" s_Missing___init__ fM gM)
    (dR : MethIn K CR "__init__" "Range.__init__" s_Range___init__ fR gR)
    (pr_knots : PropOf K C "knots" p1 e1) (fn_knots : Fun K "knots" "Plant.knots" s_Plant_knots e1 ge1)
    (pr_streams : PropOf K C "streams" p2 e2) (fn_streams : Fun K "streams" "Plant.streams" s_Plant_streams e2 ge2)
    (pgC : PySem.W.plainGet K C Str.empty = true) (hdC : PySem.W.hasDictIn K C = true) (poC : PySem.W.plainOver K C = true) (saC : PySem.W.findIn K (.ref C) "__setattr__" = some (some (.builtin "object.__setattr__"))) (mkC : PySem.W.makesIn K C = true) (kcC : PySem.W.keepIn K (.ref C) = true)
    (pgCM : PySem.W.plainGet K CM Str.empty = true) (hdCM : PySem.W.hasDictIn K CM = true) (poCM : PySem.W.plainOver K CM = true) (saCM : PySem.W.findIn K (.ref CM) "__setattr__" = some (some (.builtin "object.__setattr__"))) (mkCM : PySem.W.makesIn K CM = true) (kcCM : PySem.W.keepIn K (.ref CM) = true)
    (pgCR : PySem.W.plainGet K CR Str.empty = true) (hdCR : PySem.W.hasDictIn K CR = true) (poCR : PySem.W.plainOver K CR = true) (saCR : PySem.W.findIn K (.ref CR) "__setattr__" = some (some (.builtin "object.__setattr__"))) (mkCR : PySem.W.makesIn K CR = true) (kcCR : PySem.W.keepIn K (.ref CR) = true)
    (nK : PySem.W.findIn K (.ref C) "_knots" = some none)
    (nS : PySem.W.findIn K (.ref C) "_streams" = some none)
    (nNu : PySem.W.findIn K (.ref CM) "number" = some none)
    (nFl : PySem.W.findIn K (.ref CM) "flows" = some none)
    (nLe : PySem.W.findIn K (.ref CM) "least" = some none)
    (nGr : PySem.W.findIn K (.ref CM) "greatest" = some none)
    (nLo : PySem.W.findIn K (.ref CR) "low" = some none)
    (nHi : PySem.W.findIn K (.ref CR) "high" = some none)
    (nLf : PySem.W.findIn K (.ref CR) "low_flows" = some none)
    (nHf : PySem.W.findIn K (.ref CR) "high_flows" = some none)
    (nLl : PySem.W.findIn K (.ref CR) "low_lot" = some none)
    (nHl : PySem.W.findIn K (.ref CR) "high_lot" = some none)
    (L1 : ∃ t, PySem.W.nsIn K mainGlobals "LETTERS" = some (some (.str (PySem.Str.ofString "abcdefghijklmnopqrstuvwxyz0123456789") t)))
    (L2 : ∃ t, PySem.W.nsIn K mainGlobals "MOST_FLOW" = some (some (.int 1000000 t)))
    (L3 : ∃ t, PySem.W.nsIn K mainGlobals "MOST_KNOTS" = some (some (.int 24 t)))
    (L4 : ∃ t, PySem.W.nsIn K mainGlobals "MOST_STREAMS" = some (some (.int 60 t)))
    (z_len : PySem.W.nsIn K mainGlobals "len" = some none)
    (z_sorted : PySem.W.nsIn K mainGlobals "sorted" = some none)
    (z_set : PySem.W.nsIn K mainGlobals "set" = some none)
    (z_list : PySem.W.nsIn K mainGlobals "list" = some none)
    (z_dict : PySem.W.nsIn K mainGlobals "dict" = some none)
    (z_all : PySem.W.nsIn K mainGlobals "all" = some none)
    (z_sum : PySem.W.nsIn K mainGlobals "sum" = some none)
    (z_max : PySem.W.nsIn K mainGlobals "max" = some none)
    (z_min : PySem.W.nsIn K mainGlobals "min" = some none)
    (z_abs : PySem.W.nsIn K mainGlobals "abs" = some none)
    (z_int : PySem.W.nsIn K mainGlobals "int" = some none)
    (z_range : PySem.W.nsIn K mainGlobals "range" = some none)
    : ∃ fd : FuncData, (∀ (s : Shared) (v : Value), BindsTo s fd ⟨[v], []⟩ [("_law_script", v)]) ∧ ∀ base : Heap, K.In base → base.Ns mainGlobals mg → FnOk l.prog w K mg base CX0 40 fa fd ["_law_script"] (spLaw K) := by
  have e := hfa.symm.trans d_law.at_
  cases e
  have mP := PySem.W.mg_of X G aC
  have mM := PySem.W.mg_of X G aCM
  have mR := PySem.W.mg_of X G aCR
  have T : Txt K mg C CM CR := {
    cl := ⟨pgC, hdC, poC, saC⟩, clM := ⟨pgCM, hdCM, poCM, saCM⟩, clR := ⟨pgCR, hdCR, poCR, saCR⟩,
    nK := nK, nS := nS, nNu := nNu, nFl := nFl, nLe := nLe, nGr := nGr, nLo := nLo, nHi := nHi, nLf := nLf, nHf := nHf, nLl := nLl, nHl := nHl,
    gL := ⟨_, PySem.W.mg_of X G L1.choose_spec, _, rfl⟩, gF := ⟨_, PySem.W.mg_of X G L2.choose_spec, _, rfl⟩, gK := ⟨_, PySem.W.mg_of X G L3.choose_spec, _, rfl⟩, gS := ⟨_, PySem.W.mg_of X G L4.choose_spec, _, rfl⟩,
    len := PySem.W.mg_none_of X G z_len, sorted := PySem.W.mg_none_of X G z_sorted, set := PySem.W.mg_none_of X G z_set, list := PySem.W.mg_none_of X G z_list, dict := PySem.W.mg_none_of X G z_dict, all := PySem.W.mg_none_of X G z_all, sum := PySem.W.mg_none_of X G z_sum, max := PySem.W.mg_none_of X G z_max, min := PySem.W.mg_none_of X G z_min, abs := PySem.W.mg_none_of X G z_abs, int := PySem.W.mg_none_of X G z_int, range := PySem.W.mg_none_of X G z_range }
  refine ⟨g_law, fun s v => ?_, fun base _ _ => ?_⟩
  · obtain ⟨oc, od, kV, doc, pm, an, cdv, ct, osl, e, _, _⟩ := d_law.fn.ex
    rw [e]
    exact .of_eq rfl
  have m_stream_names := ok_stream_names (P := l.prog) (w := w) (base := base) T d1
  have m_stream_named := ok_stream_named (P := l.prog) (w := w) (base := base) T d2
  have p_knots := ok_knots (P := l.prog) (w := w) (base := base) T pr_knots fn_knots
  have p_streams := ok_streams (P := l.prog) (w := w) (base := base) T pr_streams fn_streams
  have m_Missing := ok_missing (P := l.prog) (w := w) (base := base) T mM mkCM kcCM dM
  have m_Range := ok_range (P := l.prog) (w := w) (base := base) T mR mkCR kcCR dR
  have c_is_name := ok_is_name (P := l.prog) (w := w) (base := base) T d_is_name
  have c_are_names := ok_are_names (P := l.prog) (w := w) (base := base) T d_are_names c_is_name
  have c_is_stream := ok_is_stream (P := l.prog) (w := w) (base := base) T d_is_stream
  have m_Plant := ok_init (P := l.prog) (w := w) (base := base) T mP mkC kcC dI c_are_names c_is_stream
  have c_check_flows := ok_check_flows (P := l.prog) (w := w) (base := base) T d_check_flows m_stream_names
  have c_lacks := ok_lacks (P := l.prog) (w := w) (base := base) T d_lacks c_check_flows p_knots p_streams
  have c_lines_of := ok_lines_of (P := l.prog) (w := w) (base := base) T d_lines_of p_streams
  have c_arcs_of := ok_arcs_of (P := l.prog) (w := w) (base := base) T d_arcs_of
  have c_way_back := ok_way_back (P := l.prog) (w := w) (base := base) T d_way_back
  have c_way_between := ok_way_between (P := l.prog) (w := w) (base := base) T d_way_between c_way_back
  have c_push := ok_push (P := l.prog) (w := w) (base := base) T d_push
  have c_push_all := ok_push_all (P := l.prog) (w := w) (base := base) T d_push_all c_arcs_of c_way_between c_push
  have c_come_to := ok_come_to (P := l.prog) (w := w) (base := base) T d_come_to
  have c_leading_to := ok_leading_to (P := l.prog) (w := w) (base := base) T d_leading_to c_arcs_of c_come_to
  have c_led_from := ok_led_from (P := l.prog) (w := w) (base := base) T d_led_from c_arcs_of c_come_to
  have c_check_limits := ok_check_limits (P := l.prog) (w := w) (base := base) T d_check_limits c_lacks
  have c_crossed := ok_crossed (P := l.prog) (w := w) (base := base) T d_crossed c_check_limits m_stream_names
  have c_missing_of := ok_missing_of (P := l.prog) (w := w) (base := base) T d_missing_of c_lacks
  have c_least_missing := ok_least_missing (P := l.prog) (w := w) (base := base) T d_least_missing c_crossed c_lines_of c_lacks p_knots c_arcs_of c_way_between c_push c_leading_to c_led_from c_missing_of m_Missing
  have c_flows_within := ok_flows_within (P := l.prog) (w := w) (base := base) T d_flows_within c_least_missing
  have c_pushed_to := ok_pushed_to (P := l.prog) (w := w) (base := base) T d_pushed_to c_push_all c_leading_to p_knots
  have c_range_within := ok_range_within (P := l.prog) (w := w) (base := base) T d_range_within m_stream_named c_flows_within c_lines_of c_pushed_to m_Range
  have c_check_readings := ok_check_readings (P := l.prog) (w := w) (base := base) T d_check_readings m_stream_names
  have c_limits_of := ok_limits_of (P := l.prog) (w := w) (base := base) T d_limits_of c_check_readings p_streams
  have c_range_of := ok_range_of (P := l.prog) (w := w) (base := base) T d_range_of c_limits_of c_range_within
  have c_ranges_of := ok_ranges_of (P := l.prog) (w := w) (base := base) T d_ranges_of c_limits_of c_flows_within c_range_within m_stream_names
  have c__law_row := ok_law_row (P := l.prog) (w := w) (base := base) T d__law_row
  have c__law_numbers := ok_law_numbers (P := l.prog) (w := w) (base := base) T d__law_numbers c__law_row
  have c__law_names := ok_law_names (P := l.prog) (w := w) (base := base) T d__law_names
  have c__law_lines := ok_law_lines (P := l.prog) (w := w) (base := base) T d__law_lines c__law_names
  have c__law_rounds := ok_law_rounds (P := l.prog) (w := w) (base := base) T d__law_rounds
  have c__law_plant := ok_law_plant (P := l.prog) (w := w) (base := base) T d__law_plant c__law_names c__law_lines c__law_rounds
  have c__law_made := ok_law_made (P := l.prog) (w := w) (base := base) T d__law_made m_Plant
  have c__law_drawn_limits := ok_law_drawn_limits (P := l.prog) (w := w) (base := base) T d__law_drawn_limits
  have c__law_narrow := ok_law_narrow (P := l.prog) (w := w) (base := base) T d__law_narrow
  have c__law_readings := ok_law_readings (P := l.prog) (w := w) (base := base) T d__law_readings
  have c__law_limits_of := ok_law_limits_of (P := l.prog) (w := w) (base := base) T d__law_limits_of
  have c__law_left := ok_law_left (P := l.prog) (w := w) (base := base) T d__law_left
  have c__law_balanced := ok_law_balanced (P := l.prog) (w := w) (base := base) T d__law_balanced c__law_left
  have c__law_every := ok_law_every (P := l.prog) (w := w) (base := base) T d__law_every
  have c__law_all_balanced := ok_law_all_balanced (P := l.prog) (w := w) (base := base) T d__law_all_balanced c__law_every c__law_balanced
  have c__law_spans := ok_law_spans (P := l.prog) (w := w) (base := base) T d__law_spans c__law_all_balanced
  refine d_law.fn.ok (N := N_law) sc_law (fun vs H Q E h => ?_) (ok_law T c__law_numbers c__law_plant c__law_drawn_limits c__law_narrow c__law_made c__law_spans c_range_within c__law_readings c__law_limits_of c_ranges_of c_range_of)
  obtain ⟨a, ns, rfl, _⟩ := h
  rfl
end Ms
open PySem PySem.W PyProof.Rows
set_option maxRecDepth 100000 in
set_option maxHeartbeats 0 in
theorem PySem.Challenge.cw_metersure_k31_whole_ranges_of_small_plan_holds : PySem.Challenge.rw_metersure_k31_whole_ranges_of_small_plan.Holds := by
  w_on; o_law; k_head; (case hw => w_witness2)
  k_fill
  refine L2.walk_of (l := PySem.Challenge.rw_metersure_k31_whole_ranges_of_small_plan) (n := 63) (k := 40) (x := "_law_script") (CX := fun _ => L2.CX0) (sp := fun w => Ms.spLaw _) rfl (by decide) rfl ⟨by decide, by decide, by decide⟩ (fun w h Y => PySem.W.kIn_of Y) ?F (fun _ _ a ns hl _ hS => ⟨a, ns, rfl, hS, hl, fun _ => rfl⟩) (fun _ _ _ _ _ h => h)
  case F =>
    intro w mg fa h KX G hmg
    refine' Ms.all_law KX G hmg ?d_is_name ?d_are_names ?d_is_stream ?d_check_flows ?d_lacks ?d_lines_of ?d_arcs_of ?d_way_between ?d_way_back ?d_push ?d_push_all ?d_leading_to ?d_led_from ?d_come_to ?d_check_limits ?d_crossed ?d_missing_of ?d_least_missing ?d_check_readings ?d_limits_of ?d_flows_within ?d_pushed_to ?d_range_within ?d_range_of ?d_ranges_of ?d__law_row ?d__law_numbers ?d__law_names ?d__law_lines ?d__law_rounds ?d__law_plant ?d__law_made ?d__law_drawn_limits ?d__law_readings ?d__law_limits_of ?d__law_left ?d__law_balanced ?d__law_every ?d__law_all_balanced ?d__law_narrow ?d__law_spans ?d_law ?aC ?aCM ?aCR ?dI ?d1 ?d2 ?dM ?dR ?pr_knots ?fn_knots ?pr_streams ?fn_streams ?pgC ?hdC ?poC ?saC ?mkC ?kcC ?pgCM ?hdCM ?poCM ?saCM ?mkCM ?kcCM ?pgCR ?hdCR ?poCR ?saCR ?mkCR ?kcCR ?nK ?nS ?nNu ?nFl ?nLe ?nGr ?nLo ?nHi ?nLf ?nHf ?nLl ?nHl ?L1 ?L2 ?L3 ?L4 ?z_len ?z_sorted ?z_set ?z_list ?z_dict ?z_all ?z_sum ?z_max ?z_min ?z_abs ?z_int ?z_range
    (case d_is_name => refine' Ms.def_in KX G ?a ?l ?c ?k; (case a => k_is); (case l => k_is); (case c => k_is); (case k => k_is))
    (case d_are_names => refine' Ms.def_in KX G ?a ?l ?c ?k; (case a => k_is); (case l => k_is); (case c => k_is); (case k => k_is))
    (case d_is_stream => refine' Ms.def_in KX G ?a ?l ?c ?k; (case a => k_is); (case l => k_is); (case c => k_is); (case k => k_is))
    (case d_check_flows => refine' Ms.def_in KX G ?a ?l ?c ?k; (case a => k_is); (case l => k_is); (case c => k_is); (case k => k_is))
    (case d_lacks => refine' Ms.def_in KX G ?a ?l ?c ?k; (case a => k_is); (case l => k_is); (case c => k_is); (case k => k_is))
    (case d_lines_of => refine' Ms.def_in KX G ?a ?l ?c ?k; (case a => k_is); (case l => k_is); (case c => k_is); (case k => k_is))
    (case d_arcs_of => refine' Ms.def_in KX G ?a ?l ?c ?k; (case a => k_is); (case l => k_is); (case c => k_is); (case k => k_is))
    (case d_way_between => refine' Ms.def_in KX G ?a ?l ?c ?k; (case a => k_is); (case l => k_is); (case c => k_is); (case k => k_is))
    (case d_way_back => refine' Ms.def_in KX G ?a ?l ?c ?k; (case a => k_is); (case l => k_is); (case c => k_is); (case k => k_is))
    (case d_push => refine' Ms.def_in KX G ?a ?l ?c ?k; (case a => k_is); (case l => k_is); (case c => k_is); (case k => k_is))
    (case d_push_all => refine' Ms.def_in KX G ?a ?l ?c ?k; (case a => k_is); (case l => k_is); (case c => k_is); (case k => k_is))
    (case d_leading_to => refine' Ms.def_in KX G ?a ?l ?c ?k; (case a => k_is); (case l => k_is); (case c => k_is); (case k => k_is))
    (case d_led_from => refine' Ms.def_in KX G ?a ?l ?c ?k; (case a => k_is); (case l => k_is); (case c => k_is); (case k => k_is))
    (case d_come_to => refine' Ms.def_in KX G ?a ?l ?c ?k; (case a => k_is); (case l => k_is); (case c => k_is); (case k => k_is))
    (case d_check_limits => refine' Ms.def_in KX G ?a ?l ?c ?k; (case a => k_is); (case l => k_is); (case c => k_is); (case k => k_is))
    (case d_crossed => refine' Ms.def_in KX G ?a ?l ?c ?k; (case a => k_is); (case l => k_is); (case c => k_is); (case k => k_is))
    (case d_missing_of => refine' Ms.def_in KX G ?a ?l ?c ?k; (case a => k_is); (case l => k_is); (case c => k_is); (case k => k_is))
    (case d_least_missing => refine' Ms.def_in KX G ?a ?l ?c ?k; (case a => k_is); (case l => k_is); (case c => k_is); (case k => k_is))
    (case d_check_readings => refine' Ms.def_in KX G ?a ?l ?c ?k; (case a => k_is); (case l => k_is); (case c => k_is); (case k => k_is))
    (case d_limits_of => refine' Ms.def_in KX G ?a ?l ?c ?k; (case a => k_is); (case l => k_is); (case c => k_is); (case k => k_is))
    (case d_flows_within => refine' Ms.def_in KX G ?a ?l ?c ?k; (case a => k_is); (case l => k_is); (case c => k_is); (case k => k_is))
    (case d_pushed_to => refine' Ms.def_in KX G ?a ?l ?c ?k; (case a => k_is); (case l => k_is); (case c => k_is); (case k => k_is))
    (case d_range_within => refine' Ms.def_in KX G ?a ?l ?c ?k; (case a => k_is); (case l => k_is); (case c => k_is); (case k => k_is))
    (case d_range_of => refine' Ms.def_in KX G ?a ?l ?c ?k; (case a => k_is); (case l => k_is); (case c => k_is); (case k => k_is))
    (case d_ranges_of => refine' Ms.def_in KX G ?a ?l ?c ?k; (case a => k_is); (case l => k_is); (case c => k_is); (case k => k_is))
    (case d__law_row => refine' Ms.def_in KX G ?a ?l ?c ?k; (case a => k_is); (case l => k_is); (case c => k_is); (case k => k_is))
    (case d__law_numbers => refine' Ms.def_in KX G ?a ?l ?c ?k; (case a => k_is); (case l => k_is); (case c => k_is); (case k => k_is))
    (case d__law_names => refine' Ms.def_in KX G ?a ?l ?c ?k; (case a => k_is); (case l => k_is); (case c => k_is); (case k => k_is))
    (case d__law_lines => refine' Ms.def_in KX G ?a ?l ?c ?k; (case a => k_is); (case l => k_is); (case c => k_is); (case k => k_is))
    (case d__law_rounds => refine' Ms.def_in KX G ?a ?l ?c ?k; (case a => k_is); (case l => k_is); (case c => k_is); (case k => k_is))
    (case d__law_plant => refine' Ms.def_in KX G ?a ?l ?c ?k; (case a => k_is); (case l => k_is); (case c => k_is); (case k => k_is))
    (case d__law_made => refine' Ms.def_in KX G ?a ?l ?c ?k; (case a => k_is); (case l => k_is); (case c => k_is); (case k => k_is))
    (case d__law_drawn_limits => refine' Ms.def_in KX G ?a ?l ?c ?k; (case a => k_is); (case l => k_is); (case c => k_is); (case k => k_is))
    (case d__law_readings => refine' Ms.def_in KX G ?a ?l ?c ?k; (case a => k_is); (case l => k_is); (case c => k_is); (case k => k_is))
    (case d__law_limits_of => refine' Ms.def_in KX G ?a ?l ?c ?k; (case a => k_is); (case l => k_is); (case c => k_is); (case k => k_is))
    (case d__law_left => refine' Ms.def_in KX G ?a ?l ?c ?k; (case a => k_is); (case l => k_is); (case c => k_is); (case k => k_is))
    (case d__law_balanced => refine' Ms.def_in KX G ?a ?l ?c ?k; (case a => k_is); (case l => k_is); (case c => k_is); (case k => k_is))
    (case d__law_every => refine' Ms.def_in KX G ?a ?l ?c ?k; (case a => k_is); (case l => k_is); (case c => k_is); (case k => k_is))
    (case d__law_all_balanced => refine' Ms.def_in KX G ?a ?l ?c ?k; (case a => k_is); (case l => k_is); (case c => k_is); (case k => k_is))
    (case d__law_narrow => refine' Ms.def_in KX G ?a ?l ?c ?k; (case a => k_is); (case l => k_is); (case c => k_is); (case k => k_is))
    (case d__law_spans => refine' Ms.def_in KX G ?a ?l ?c ?k; (case a => k_is); (case l => k_is); (case c => k_is); (case k => k_is))
    (case d_law => refine' Ms.def_in KX G ?a ?l ?c ?k; (case a => k_is); (case l => k_is); (case c => k_is); (case k => k_is))
    (case aC => k_is)
    (case aCM => k_is)
    (case aCR => k_is)
    (case dI => refine' Ms.meth_in ?a ?i ?l ?c ?k; (case a => k_is); (case i => k_is); (case l => k_is); (case c => k_is); (case k => k_is))
    (case d1 => refine' Ms.meth_in ?a ?i ?l ?c ?k; (case a => k_is); (case i => k_is); (case l => k_is); (case c => k_is); (case k => k_is))
    (case d2 => refine' Ms.meth_in ?a ?i ?l ?c ?k; (case a => k_is); (case i => k_is); (case l => k_is); (case c => k_is); (case k => k_is))
    (case dM => refine' Ms.meth_in ?a ?i ?l ?c ?k; (case a => k_is); (case i => k_is); (case l => k_is); (case c => k_is); (case k => k_is))
    (case dR => refine' Ms.meth_in ?a ?i ?l ?c ?k; (case a => k_is); (case i => k_is); (case l => k_is); (case c => k_is); (case k => k_is))
    (case pr_knots => refine' ⟨?a, ?b, ?c, ?d⟩; (case a => k_is); (case b => k_is); (case c => k_is); (case d => exact ⟨_, by k_is⟩))
    (case fn_knots => refine' L2.fun_mk ?l ?c ?k; (case l => k_is); (case c => k_is); (case k => k_is))
    (case pr_streams => refine' ⟨?a, ?b, ?c, ?d⟩; (case a => k_is); (case b => k_is); (case c => k_is); (case d => exact ⟨_, by k_is⟩))
    (case fn_streams => refine' L2.fun_mk ?l ?c ?k; (case l => k_is); (case c => k_is); (case k => k_is))
    (case pgC => k_is)
    (case hdC => k_is)
    (case poC => k_is)
    (case saC => k_is)
    (case mkC => k_is)
    (case kcC => k_is)
    (case pgCM => k_is)
    (case hdCM => k_is)
    (case poCM => k_is)
    (case saCM => k_is)
    (case mkCM => k_is)
    (case kcCM => k_is)
    (case pgCR => k_is)
    (case hdCR => k_is)
    (case poCR => k_is)
    (case saCR => k_is)
    (case mkCR => k_is)
    (case kcCR => k_is)
    (case nK => k_is)
    (case nS => k_is)
    (case nNu => k_is)
    (case nFl => k_is)
    (case nLe => k_is)
    (case nGr => k_is)
    (case nLo => k_is)
    (case nHi => k_is)
    (case nLf => k_is)
    (case nHf => k_is)
    (case nLl => k_is)
    (case nHl => k_is)
    (case L1 => exact ⟨_, by k_is⟩)
    (case L2 => exact ⟨_, by k_is⟩)
    (case L3 => exact ⟨_, by k_is⟩)
    (case L4 => exact ⟨_, by k_is⟩)
    (case z_len => k_is)
    (case z_sorted => k_is)
    (case z_set => k_is)
    (case z_list => k_is)
    (case z_dict => k_is)
    (case z_all => k_is)
    (case z_sum => k_is)
    (case z_max => k_is)
    (case z_min => k_is)
    (case z_abs => k_is)
    (case z_int => k_is)
    (case z_range => k_is)
