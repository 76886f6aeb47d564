import PyProof.Rows.All
import Wide.All
import OpenK.AllK
import Wide.FinOn
import HandS.Base
import HandS.Call
import HandS.List
import HandS.Comp
import HandS.Dict
import HandS.Iter
import HandS.Text
import HandS.Ends
import HandS.Words
import HandS.WordsList
import HandS.WordsDict
import HandS.Evl
import HandS.DictComp
import HandS.IsInst
import HandS.Strs
import HandS.Conv
import HandS.More
import HandS.Flow
import HandS.Style
import HandS.Lambda
import HandS.EndTab
import KE.KLam
import KE.SortKeyHeap
import PyProof.TupleOfSeq
import PySem.Challenge.RW_weirkeepers_k07_whole_turns_and_guards
import HandS.Walk
import HandS.TupAny
import KE.GoesEnum
set_option Elab.async false
set_option linter.all false
set_option maxRecDepth 100000
set_option maxHeartbeats 4000000
set_option autoImplicit false
/-! Rivers as lists of pairs: courses, ways, and the lemma about the last weir. -/
namespace Wk
variable {α : Type} [DecidableEq α]

/-- what the rows say lies below w -/
def low (sea : α) (rows : List (α × α)) (w : α) : α := ((rows.find? (fun r => decide (r.1 = w))).map (·.2)).getD sea

/-- c is the course from x: weir by weir down to the sea -/
def IsPath (sea : α) (rows : List (α × α)) : α → List α → Prop
  | x, [] => x = sea
  | x, y :: r => y = x ∧ x ≠ sea ∧ (x, low sea rows x) ∈ rows ∧ IsPath sea rows (low sea rows x) r

def crs (sea : α) (rows : List (α × α)) : Nat → α → List α
  | 0, _ => []
  | n + 1, w => if w = sea then [] else w :: crs sea rows n (low sea rows w)
/-- the course of a weir -/
def course (sea : α) (rows : List (α × α)) (w : α) : List α := crs sea rows rows.length w
def depth (sea : α) (rows : List (α × α)) (w : α) : Nat := (course sea rows w).length

structure GoodRiver (sea : α) (rows : List (α × α)) : Prop where
  ne : rows ≠ []
  nd : (rows.map (·.1)).Nodup
  nosea : ∀ r ∈ rows, r.1 ≠ sea
  rank : ∃ rk : α → Nat, ∀ r ∈ rows, rk r.1 < rows.length ∧ (r.2 = sea ∨ ((∃ q ∈ rows, q.1 = r.2) ∧ rk r.2 < rk r.1))

theorem low_of {sea : α} {rows : List (α × α)} (nd : (rows.map (·.1)).Nodup) {r : α × α} (h : r ∈ rows) : low sea rows r.1 = r.2 := by
  unfold low
  induction rows with
  | nil => cases h
  | cons q qs ih =>
    rw [List.find?_cons]
    rw [List.map_cons, List.nodup_cons] at nd
    rcases List.mem_cons.mp h with e | h
    · subst e; simp
    · have hne : q.1 ≠ r.1 := fun e => nd.1 (List.mem_map.mpr ⟨r, h, e.symm⟩)
      simp only [decide_eq_false hne]
      exact ih nd.2 h
theorem low_mem {sea : α} {rows : List (α × α)} (nd : (rows.map (·.1)).Nodup) {w : α} (h : w ∈ rows.map (·.1)) : (w, low sea rows w) ∈ rows := by
  obtain ⟨r, hr, e⟩ := List.mem_map.mp h
  have := low_of (sea := sea) nd hr
  subst e
  rw [this]
  exact hr

section
variable {sea : α} {rows : List (α × α)}
theorem IsPath.inj : ∀ {c d : List α} {x : α}, IsPath sea rows x c → IsPath sea rows x d → c = d
  | [], [], _, _, _ => rfl
  | [], _ :: _, _, h, k => absurd h k.2.1
  | _ :: _, [], _, h, k => absurd k h.2.1
  | _ :: c, _ :: d, _, h, k => by rw [h.1, k.1, IsPath.inj h.2.2.2 k.2.2.2]
theorem IsPath.crs_eq : ∀ {n : Nat} {c : List α} {x : α}, IsPath sea rows x c → c.length ≤ n → crs sea rows n x = c
  | 0, [], _, _, _ => rfl
  | 0, _ :: _, _, _, hl => absurd hl (by simp)
  | n + 1, [], x, h, _ => by
    have e : x = sea := h
    unfold crs
    rw [if_pos e]
  | n + 1, y :: c, x, h, hl => by
    unfold crs
    rw [if_neg h.2.1, IsPath.crs_eq h.2.2.2 (by simpa using hl), h.1]
theorem IsPath.suffix : ∀ {pre : List α} {x y : α} {r : List α}, IsPath sea rows x (pre ++ y :: r) → IsPath sea rows y (y :: r)
  | [], _, _, _, h => by
    have e := h.1
    subst e
    exact h
  | _ :: pre, _, _, _, h => IsPath.suffix (pre := pre) h.2.2.2
theorem IsPath.head {x : α} {c : List α} (h : IsPath sea rows x c) (hx : x ≠ sea) : ∃ r, c = x :: r := by
  cases c with
  | nil => exact absurd h hx
  | cons y r => exact ⟨r, by rw [h.1]⟩
theorem IsPath.mem {x : α} : ∀ {c : List α} {x : α}, IsPath sea rows x c → ∀ y ∈ c, y ∈ rows.map (·.1)
  | [], _, _, _, h => absurd h (by simp)
  | z :: r, x, h, y, hy => by
    rcases List.mem_cons.mp hy with e | hy
    · rw [e, h.1]
      exact List.mem_map.mpr ⟨_, h.2.2.1, rfl⟩
    · exact IsPath.mem (x := x) h.2.2.2 y hy

theorem GoodRiver.has (G : GoodRiver sea rows) {w : α} (hw : w ∈ rows.map (·.1)) : ∃ c, IsPath sea rows w c ∧ c.length ≤ rows.length := by
  obtain ⟨rk, hr⟩ := G.rank
  have key : ∀ (n : Nat) (w : α), w ∈ rows.map (·.1) → rk w < n → ∃ c, IsPath sea rows w c ∧ c.length ≤ rk w + 1 := by
    intro n
    induction n with
    | zero => intro w _ h; exact absurd h (Nat.not_lt_zero _)
    | succ n ih =>
      intro w hw hn
      have hm := low_mem (sea := sea) G.nd hw
      have ns : w ≠ sea := G.nosea _ hm
      rcases (hr _ hm).2 with e | ⟨⟨q, hq, eq⟩, hlt⟩
      · have e : low sea rows w = sea := e
        exact ⟨[w], ⟨rfl, ns, hm, e⟩, by simp⟩
      · have hlt : rk (low sea rows w) < rk w := hlt
        obtain ⟨c, hc, hl⟩ := ih (low sea rows w) (List.mem_map.mpr ⟨q, hq, eq⟩) (by omega)
        exact ⟨w :: c, ⟨rfl, ns, hm, hc⟩, by simp; omega⟩
  obtain ⟨c, hc, hl⟩ := key (rk w + 1) w hw (Nat.lt_succ_self _)
  have hm := low_mem (sea := sea) G.nd hw
  exact ⟨c, hc, by have := (hr _ hm).1; simp at this; omega⟩
theorem GoodRiver.path (G : GoodRiver sea rows) {w : α} (hw : w ∈ rows.map (·.1)) : IsPath sea rows w (course sea rows w) := by
  obtain ⟨c, hc, hl⟩ := G.has hw
  unfold course
  rw [hc.crs_eq hl]
  exact hc
theorem GoodRiver.len (G : GoodRiver sea rows) {w : α} (hw : w ∈ rows.map (·.1)) : (course sea rows w).length ≤ rows.length := by
  obtain ⟨c, hc, hl⟩ := G.has hw
  unfold course
  rw [hc.crs_eq hl]
  exact hl
theorem GoodRiver.start (G : GoodRiver sea rows) {w : α} (hw : w ∈ rows.map (·.1)) : ∃ r, course sea rows w = w :: r :=
  (G.path hw).head (G.nosea _ (low_mem (sea := sea) G.nd hw))
/-- the course of a weir in a course is the rest of it -/
theorem GoodRiver.rest (G : GoodRiver sea rows) {w y : α} {pre r : List α} (hw : w ∈ rows.map (·.1)) (e : course sea rows w = pre ++ y :: r) : course sea rows y = y :: r := by
  have h := G.path hw
  rw [e] at h
  have hy := h.suffix
  have hm : y ∈ rows.map (·.1) := IsPath.mem (x := y) h y (by simp)
  exact (G.path hm).inj hy

/-! ### ways -/
/-- the way of a row (intake, last): as the program and the law cut it -/
def way (sea : α) (rows : List (α × α)) (intake last : α) : List α :=
  if last = sea then course sea rows intake else (course sea rows intake).take ((course sea rows intake).idxOf last + 1)

theorem take_idx {c : List α} {y : α} (h : y ∈ c) : ∃ pre post, c = pre ++ y :: post ∧ c.idxOf y = pre.length ∧ y ∉ pre := by
  induction c with
  | nil => cases h
  | cons x xs ih =>
    by_cases e : x = y
    · subst e
      exact ⟨[], xs, rfl, by simp, by simp⟩
    · have h' : y ∈ xs := by
        rcases List.mem_cons.mp h with z | z
        · exact absurd z.symm e
        · exact z
      obtain ⟨pre, post, e1, e2, e3⟩ := ih h'
      refine ⟨x :: pre, post, by rw [e1]; rfl, ?_, ?_⟩
      · rw [List.idxOf_cons]
        have : (x == y) = false := by simpa using e
        rw [this, e2]
        rfl
      · intro z
        rcases List.mem_cons.mp z with z | z
        · exact e z.symm
        · exact e3 z
/-- a way is a course cut behind a weir z, its last -/
theorem way_cut (G : GoodRiver sea rows) {intake last : α} (hi : intake ∈ rows.map (·.1)) (hl : last = sea ∨ last ∈ course sea rows intake) :
    ∃ pre z post, way sea rows intake last = pre ++ [z] ∧ course sea rows intake = pre ++ z :: post := by
  unfold way
  by_cases e : last = sea
  · rw [if_pos e]
    obtain ⟨r, hr⟩ := G.start hi
    have hne : course sea rows intake ≠ [] := by rw [hr]; simp
    refine ⟨(course sea rows intake).dropLast, (course sea rows intake).getLast hne, [], ?_, ?_⟩
    · rw [List.dropLast_concat_getLast]
    · rw [List.dropLast_concat_getLast]
  · rw [if_neg e]
    have hm : last ∈ course sea rows intake := hl.resolve_left e
    obtain ⟨pre, post, e1, e2, e3⟩ := take_idx hm
    refine ⟨pre, last, post, ?_, e1⟩
    rw [e2, e1]
    have : pre ++ last :: post = (pre ++ [last]) ++ post := by simp
    rw [this]
    have hlen : pre.length + 1 = (pre ++ [last]).length := by simp
    rw [hlen, List.take_left]

/-- an item of a list, split off -/
theorem split_of {c : List α} {w : α} (h : w ∈ c) : ∃ a b, c = a ++ w :: b := by
  obtain ⟨a, b, e⟩ := List.append_of_mem h
  exact ⟨a, b, e⟩

/-- THE LEMMA: two ways that share a weir; where the first one's last weir lies no nearer to the sea, the second has it -/
theorem last_in (G : GoodRiver sea rows) {i j : α} {A B pa pb : List α} {x y : α} {qa qb : List α} (hi : i ∈ rows.map (·.1)) (hj : j ∈ rows.map (·.1))
    (eA : A = pa ++ [x]) (cA : course sea rows i = pa ++ x :: qa) (eB : B = pb ++ [y]) (cB : course sea rows j = pb ++ y :: qb)
    (hd : depth sea rows y ≤ depth sea rows x) {w : α} (wA : w ∈ A) (wB : w ∈ B) : x ∈ B := by
  have dx : depth sea rows x = qa.length + 1 := by unfold depth; rw [G.rest hi cA]; simp
  have dy : depth sea rows y = qb.length + 1 := by unfold depth; rw [G.rest hj cB]; simp
  obtain ⟨a1, a2, ea⟩ := split_of wA
  obtain ⟨b1, b2, eb⟩ := split_of wB
  have c1 : course sea rows i = a1 ++ w :: (a2 ++ qa) := by
    have : pa ++ x :: qa = (pa ++ [x]) ++ qa := by simp
    rw [cA, this, ← eA, ea]
    simp
  have c2 : course sea rows j = b1 ++ w :: (b2 ++ qb) := by
    have : pb ++ y :: qb = (pb ++ [y]) ++ qb := by simp
    rw [cB, this, ← eB, eb]
    simp
  have w1 := G.rest hi c1
  have w2 := G.rest hj c2
  rw [w1] at w2
  have e3 : a2 ++ qa = b2 ++ qb := (List.cons.inj w2).2
  have hlen : a2.length ≤ b2.length := by
    have := congrArg List.length e3
    simp at this
    omega
  have hp : a2 <+: b2 := List.prefix_of_prefix_length_le (l₃ := b2 ++ qb) (by rw [← e3]; exact List.prefix_append _ _) (List.prefix_append _ _) hlen
  have hx : x ∈ w :: a2 := by
    have hxl : (pa ++ [x]).getLast? = some x := by simp
    rw [← eA, ea, List.getLast?_append] at hxl
    have : (w :: a2).getLast? = some x := by
      cases h : (w :: a2).getLast? with
      | none => simp at h
      | some v => rw [h] at hxl; simpa using hxl
    exact List.mem_of_getLast? this
  rw [eb]
  refine List.mem_append_right _ ?_
  rcases List.mem_cons.mp hx with e | hx
  · rw [e]; simp
  · exact List.mem_cons_of_mem _ (hp.subset hx)
end
end Wk

set_option autoImplicit false
/-! Dealing rights into turns, first fit; taking rights apart: lists alone. -/
namespace Wk
variable {α : Type} [DecidableEq α]

/-- two rights meet: a weir of the first one's way lies in the second one's -/
def meets (wy : α → List α) (a b : α) : Bool := (wy a).any fun w => decide (w ∈ wy b)
theorem meets_iff {wy : α → List α} {a b : α} : meets wy a b = true ↔ ∃ w, w ∈ wy a ∧ w ∈ wy b := by
  unfold meets
  simp
theorem meets_symm {wy : α → List α} {a b : α} (h : meets wy a b = true) : meets wy b a = true := by
  obtain ⟨w, h1, h2⟩ := meets_iff.mp h
  exact meets_iff.mpr ⟨w, h2, h1⟩
theorem meets_symm_false {wy : α → List α} {a b : α} (h : meets wy a b = false) : meets wy b a = false := by
  cases e : meets wy b a with
  | false => rfl
  | true => rw [meets_symm e] at h; cases h

/-- the places of the turns that are free -/
def frees (c : List α → Bool) (ts : List (List α)) : List Nat := (List.range ts.length).filter fun k => !c (ts.getD k [])
def put (c : List α → Bool) (x : α) (ts : List (List α)) : List (List α) :=
  match frees c ts with
  | [] => ts ++ [[x]]
  | k :: _ => ts.set k (ts.getD k [] ++ [x])
def deal (c : α → List α → Bool) (l : List α) : List (List α) := l.foldl (fun ts x => put (c x) x ts) []
def pick (c : α → List α → Bool) (l : List α) : List α := l.foldl (fun f x => if c x f = true then f else f ++ [x]) []

theorem deal_snoc (c : α → List α → Bool) (l : List α) (x : α) : deal c (l ++ [x]) = put (c x) x (deal c l) := by
  unfold deal; rw [List.foldl_append]; rfl
theorem pick_snoc (c : α → List α → Bool) (l : List α) (x : α) : pick c (l ++ [x]) = if c x (pick c l) = true then pick c l else pick c l ++ [x] := by
  unfold pick; rw [List.foldl_append]; rfl

/-- what put does: a turn that is free grows, or there is none and a new one comes -/
theorem put_cases (c : List α → Bool) (x : α) (ts : List (List α)) :
    ((∀ t ∈ ts, c t = true) ∧ put c x ts = ts ++ [[x]]) ∨
    ∃ k t, ts[k]? = some t ∧ c t = false ∧ put c x ts = ts.set k (t ++ [x]) := by
  unfold put
  cases h : frees c ts with
  | nil =>
    left
    refine ⟨fun t ht => ?_, rfl⟩
    obtain ⟨k, hk, e⟩ := List.getElem_of_mem ht
    unfold frees at h
    have := List.filter_eq_nil_iff.mp h k (List.mem_range.mpr hk)
    rw [List.getD_eq_getElem?_getD, List.getElem?_eq_getElem hk, Option.getD_some, e] at this
    simpa using this
  | cons k r =>
    right
    have hm : k ∈ frees c ts := by rw [h]; exact List.mem_cons_self
    unfold frees at hm
    obtain ⟨h1, h2⟩ := List.mem_filter.mp hm
    have hk := List.mem_range.mp h1
    have e : ts[k]? = some (ts.getD k []) := by
      rw [List.getD_eq_getElem?_getD, List.getElem?_eq_getElem hk, Option.getD_some]
    exact ⟨k, _, e, by simpa using h2, rfl⟩

theorem flatten_set_perm : ∀ {ts : List (List α)} {k : Nat} {t : List α} (x : α), ts[k]? = some t → (ts.set k (t ++ [x])).flatten.Perm (ts.flatten ++ [x])
  | [], _, _, _, h => by simp at h
  | a :: ts, 0, t, x, h => by
    have e : a = t := by simpa using h
    subst e
    simp only [List.set_cons_zero, List.flatten_cons, List.append_assoc]
    exact List.Perm.append_left _ List.perm_append_comm
  | a :: ts, k + 1, t, x, h => by
    have ih := flatten_set_perm (ts := ts) (k := k) (t := t) x (by simpa using h)
    simp only [List.set_cons_succ, List.flatten_cons, List.append_assoc]
    exact List.Perm.append_left _ ih
theorem put_perm (c : List α → Bool) (x : α) (ts : List (List α)) : (put c x ts).flatten.Perm (ts.flatten ++ [x]) := by
  rcases put_cases c x ts with ⟨_, e⟩ | ⟨k, t, h, _, e⟩
  · rw [e]; simp
  · rw [e]; exact flatten_set_perm x h
theorem deal_perm (c : α → List α → Bool) (l : List α) : (deal c l).flatten.Perm l := by
  suffices h : ∀ n, n ≤ l.length → (deal c (l.take n)).flatten.Perm (l.take n) by
    have := h l.length (Nat.le_refl _)
    rwa [List.take_length] at this
  intro n
  induction n with
  | zero => intro _; simp [deal]
  | succ n ih =>
    intro hn
    have hn' : n < l.length := hn
    rw [List.take_succ_eq_append_getElem hn', deal_snoc]
    exact (put_perm _ _ _).trans (List.Perm.append_right _ (ih (Nat.le_of_lt hn')))
/-- induction along the list that is dealt -/
theorem deal_ind {P : List α → Prop} (l : List α) (h0 : P []) (hs : ∀ a x, (∃ r, l = a ++ x :: r) → P a → P (a ++ [x])) : P l := by
  suffices h : ∀ n, n ≤ l.length → P (l.take n) by
    have := h l.length (Nat.le_refl _)
    rwa [List.take_length] at this
  intro n
  induction n with
  | zero => intro _; simpa using h0
  | succ n ih =>
    intro hn
    have hn' : n < l.length := hn
    rw [List.take_succ_eq_append_getElem hn']
    refine hs _ _ ⟨l.drop (n + 1), ?_⟩ (ih (Nat.le_of_lt hn'))
    rw [← List.drop_eq_getElem_cons hn', List.take_append_drop]

section
variable {wy : α → List α}
/-- the told way of dealing: a turn is taken where it holds one that meets -/
def clash (wy : α → List α) (x : α) (t : List α) : Bool := t.any fun o => meets wy x o

theorem turns_apart {l : List α} : ∀ t ∈ deal (clash wy) l, t ≠ [] ∧ t.Pairwise fun a b => meets wy a b = false := by
  refine deal_ind (P := fun a => ∀ t ∈ deal (clash wy) a, t ≠ [] ∧ t.Pairwise fun a b => meets wy a b = false) l (fun t h => by simp [deal] at h) ?_
  intro a x _ ih t ht
  rw [deal_snoc] at ht
  rcases put_cases (clash wy x) x (deal (clash wy) a) with ⟨_, e⟩ | ⟨k, t', h, hc, e⟩
  · rw [e] at ht
    rcases List.mem_append.mp ht with ht | ht
    · exact ih t ht
    · have : t = [x] := by simpa using ht
      subst this
      exact ⟨by simp, by simp⟩
  · rw [e] at ht
    rcases List.mem_or_eq_of_mem_set ht with ht | rfl
    · exact ih t ht
    · refine ⟨by simp, ?_⟩
      rw [List.pairwise_append]
      refine ⟨(ih t' (List.mem_of_getElem? h)).2, by simp, fun u hu v hv => ?_⟩
      have : v = x := by simpa using hv
      subst this
      unfold clash at hc
      have := List.any_eq_false.mp hc u hu
      exact meets_symm_false (by simpa using this)

/-- how many turns: those of one weir that is the last of a right -/
theorem filter_flatten_len (p : α → Bool) : ∀ ts : List (List α), (ts.flatten.filter p).length = (ts.map fun t => (t.filter p).length).sum
  | [] => rfl
  | t :: ts => by
    rw [List.flatten_cons, List.filter_append, List.length_append, filter_flatten_len p ts]
    rfl
theorem sum_ge {β : Type} (f : β → Nat) : ∀ l : List β, (∀ x ∈ l, 1 ≤ f x) → l.length ≤ (l.map f).sum
  | [], _ => by simp
  | x :: l, h => by
    have h1 := h x List.mem_cons_self
    have h2 := sum_ge f l fun y hy => h y (List.mem_cons_of_mem _ hy)
    simp only [List.length_cons, List.map_cons, List.sum_cons]
    omega
theorem sum_le {β : Type} (f : β → Nat) : ∀ l : List β, (∀ x ∈ l, f x ≤ 1) → (l.map f).sum ≤ l.length
  | [], _ => by simp
  | x :: l, h => by
    have h1 := h x List.mem_cons_self
    have h2 := sum_le f l fun y hy => h y (List.mem_cons_of_mem _ hy)
    simp only [List.length_cons, List.map_cons, List.sum_cons]
    omega
theorem turns_few {l : List α} (lw : α → α) (hlw : ∀ x ∈ l, lw x ∈ wy x) (hk : l.Pairwise fun a b => meets wy b a = true → lw b ∈ wy a) :
    deal (clash wy) l = [] ∨ ∃ x ∈ l, (deal (clash wy) l).length ≤ (l.filter fun y => decide (lw x ∈ wy y)).length := by
  refine deal_ind (P := fun a => deal (clash wy) a = [] ∨ ∃ x ∈ a, (deal (clash wy) a).length ≤ (a.filter fun y => decide (lw x ∈ wy y)).length) l (.inl rfl) ?_
  rintro a x ⟨r, el⟩ ih
  right
  have hkx : ∀ y ∈ a, meets wy x y = true → lw x ∈ wy y := by
    rw [el, List.pairwise_append] at hk
    exact fun y hy => hk.2.2 y hy x List.mem_cons_self
  have hx : lw x ∈ wy x := hlw x (by rw [el]; simp)
  rw [deal_snoc]
  rcases put_cases (clash wy x) x (deal (clash wy) a) with ⟨hall, e⟩ | ⟨k, t', h, hc, e⟩
  · refine ⟨x, by simp, ?_⟩
    rw [e, List.length_append, List.filter_append, List.length_append, List.length_singleton]
    have e1 : ([x].filter fun y => decide (lw x ∈ wy y)).length = 1 := by simp [hx]
    rw [e1]
    have e2 : (a.filter fun y => decide (lw x ∈ wy y)).length = ((deal (clash wy) a).flatten.filter fun y => decide (lw x ∈ wy y)).length :=
      ((deal_perm (clash wy) a).filter _).length_eq.symm
    rw [e2, filter_flatten_len]
    refine Nat.add_le_add_right (sum_ge _ _ fun t ht => ?_) 1
    have hcl := hall t ht
    unfold clash at hcl
    obtain ⟨o, ho, hm⟩ := List.any_eq_true.mp hcl
    have hoa : o ∈ a := (deal_perm (clash wy) a).mem_iff.mp (List.mem_flatten.mpr ⟨t, ht, ho⟩)
    have : o ∈ t.filter fun y => decide (lw x ∈ wy y) := List.mem_filter.mpr ⟨ho, by simpa using hkx o hoa hm⟩
    exact List.length_pos_of_mem this
  · rw [e, List.length_set]
    rcases ih with ih | ⟨y, hy, hle⟩
    · rw [ih] at h; simp at h
    · refine ⟨y, List.mem_append_left _ hy, Nat.le_trans hle ?_⟩
      rw [List.filter_append, List.length_append]
      exact Nat.le_add_right _ _
/-- .. and no fewer than pass any weir -/
theorem turns_many {l : List α} (w : α) : (l.filter fun y => decide (w ∈ wy y)).length ≤ (deal (clash wy) l).length := by
  have e2 : (l.filter fun y => decide (w ∈ wy y)).length = ((deal (clash wy) l).flatten.filter fun y => decide (w ∈ wy y)).length :=
    ((deal_perm (clash wy) l).filter _).length_eq.symm
  rw [e2, filter_flatten_len]
  refine sum_le _ _ fun t ht => ?_
  have hp := (turns_apart t ht).2
  have hq : (t.filter fun y => decide (w ∈ wy y)).Pairwise fun _ _ => False := by
    rw [List.pairwise_filter]
    refine hp.imp fun {a b} hab ha hb => ?_
    have : meets wy a b = true := meets_iff.mpr ⟨w, by simpa using ha, by simpa using hb⟩
    rw [hab] at this; cases this
  cases ht' : t.filter fun y => decide (w ∈ wy y) with
  | nil => simp
  | cons a r =>
    rw [ht'] at hq
    cases r with
    | nil => simp
    | cons b r => exact absurd ((List.pairwise_cons.mp hq).1 b List.mem_cons_self) (fun z => z)

/-! ### apart and its guards -/
theorem pick_sub (c : α → List α → Bool) (l : List α) : ∀ x ∈ pick c l, x ∈ l := by
  refine deal_ind (P := fun a => ∀ x ∈ pick c a, x ∈ a) l (fun x h => by simp [pick] at h) ?_
  intro a x _ ih y hy
  rw [pick_snoc] at hy
  split at hy
  · exact List.mem_append_left _ (ih y hy)
  · rcases List.mem_append.mp hy with hy | hy
    · exact List.mem_append_left _ (ih y hy)
    · exact List.mem_append_right _ hy
theorem pick_apart {l : List α} : (pick (clash wy) l).Pairwise fun a b => meets wy a b = false := by
  refine deal_ind (P := fun a => (pick (clash wy) a).Pairwise fun a b => meets wy a b = false) l (by simp [pick]) ?_
  intro a x _ ih
  rw [pick_snoc]
  split
  · exact ih
  · rename_i hc
    rw [List.pairwise_append]
    refine ⟨ih, by simp, fun u hu v hv => ?_⟩
    have : v = x := by simpa using hv
    subst this
    have hc' : clash wy v (pick (clash wy) a) = false := by simpa using hc
    unfold clash at hc'
    exact meets_symm_false (by simpa using List.any_eq_false.mp hc' u hu)
/-- every right passes the last weir of one that was taken -/
theorem pick_guard {l : List α} (lw : α → α) (hlw : ∀ x ∈ l, lw x ∈ wy x) (hk : l.Pairwise fun a b => meets wy a b = true → lw a ∈ wy b) :
    ∀ x ∈ l, ∃ y ∈ pick (clash wy) l, lw y ∈ wy x := by
  refine deal_ind (P := fun a => ∀ x ∈ a, ∃ y ∈ pick (clash wy) a, lw y ∈ wy x) l (fun x h => by simp at h) ?_
  rintro a x ⟨r, el⟩ ih z hz
  have hkx : ∀ y ∈ a, meets wy y x = true → lw y ∈ wy x := by
    rw [el, List.pairwise_append] at hk
    exact fun y hy => hk.2.2 y hy x List.mem_cons_self
  have hx : lw x ∈ wy x := hlw x (by rw [el]; simp)
  rw [pick_snoc]
  rcases List.mem_append.mp hz with hz | hz
  · obtain ⟨y, hy, hw⟩ := ih z hz
    refine ⟨y, ?_, hw⟩
    split
    · exact hy
    · exact List.mem_append_left _ hy
  · have e : z = x := by simpa using hz
    subst e
    split
    · rename_i hc
      unfold clash at hc
      obtain ⟨o, ho, hm⟩ := List.any_eq_true.mp hc
      exact ⟨o, ho, hkx o (pick_sub _ _ o ho) (meets_symm hm)⟩
    · exact ⟨z, by simp, hx⟩
end

/-! ### the program's own words for a clash -/
/-- the others that meet x, in the order of rights -/
def metBy (wy : α → List α) (ns : List α) (x : α) : List α := ns.filter fun o => !decide (o = x) && meets wy x o
def clashP (wy : α → List α) (ns : List α) (x : α) (t : List α) : Bool := t.any fun o => decide (o ∈ metBy wy ns x)
theorem clashP_eq {wy : α → List α} {ns : List α} {x : α} {t : List α} (h : ∀ o ∈ t, o ∈ ns ∧ o ≠ x) : clashP wy ns x t = clash wy x t := by
  unfold clashP clash
  rw [Bool.eq_iff_iff, List.any_eq_true, List.any_eq_true]
  constructor
  · rintro ⟨o, ho, hd⟩
    have := of_decide_eq_true hd
    unfold metBy at this
    have h2 := (List.mem_filter.mp this).2
    simp only [Bool.and_eq_true] at h2
    exact ⟨o, ho, h2.2⟩
  · rintro ⟨o, ho, hm⟩
    refine ⟨o, ho, decide_eq_true ?_⟩
    unfold metBy
    refine List.mem_filter.mpr ⟨(h o ho).1, ?_⟩
    simp [(h o ho).2, hm]
theorem put_congr {c c' : List α → Bool} {x : α} {ts : List (List α)} (h : ∀ t ∈ ts, c t = c' t) : put c x ts = put c' x ts := by
  have e : frees c ts = frees c' ts := by
    unfold frees
    refine List.filter_congr fun k hk => ?_
    have hk := List.mem_range.mp hk
    have hm : ts.getD k [] ∈ ts := by
      rw [List.getD_eq_getElem?_getD, List.getElem?_eq_getElem hk, Option.getD_some]
      exact List.getElem_mem hk
    rw [h _ hm]
  unfold put
  rw [e]
theorem dealP_eq {wy : α → List α} {ns l : List α} (hs : ∀ x ∈ l, x ∈ ns) (hn : l.Nodup) : deal (clashP wy ns) l = deal (clash wy) l := by
  refine deal_ind (P := fun a => deal (clashP wy ns) a = deal (clash wy) a) l rfl ?_
  rintro a x ⟨r, el⟩ ih
  rw [deal_snoc, deal_snoc, ih]
  refine put_congr fun t ht => clashP_eq fun o ho => ?_
  have hoa : o ∈ a := (deal_perm (clash wy) a).mem_iff.mp (List.mem_flatten.mpr ⟨t, ht, ho⟩)
  refine ⟨hs o (by rw [el]; exact List.mem_append_left _ hoa), fun e => ?_⟩
  rw [el, List.nodup_append] at hn
  exact hn.2.2 o hoa x List.mem_cons_self e
theorem pickP_eq {wy : α → List α} {ns l : List α} (hs : ∀ x ∈ l, x ∈ ns) (hn : l.Nodup) : pick (clashP wy ns) l = pick (clash wy) l := by
  refine deal_ind (P := fun a => pick (clashP wy ns) a = pick (clash wy) a) l rfl ?_
  rintro a x ⟨r, el⟩ ih
  rw [pick_snoc, pick_snoc, ih]
  rw [clashP_eq fun o ho => ?_]
  have hoa : o ∈ a := pick_sub _ _ o ho
  refine ⟨hs o (by rw [el]; exact List.mem_append_left _ hoa), fun e => ?_⟩
  rw [el, List.nodup_append] at hn
  exact hn.2.2 o hoa x List.mem_cons_self e
end Wk

set_option autoImplicit false
/-! A river's rights: the order of removal, the fullest weir, and what the law asks of turns and apart. -/
namespace Wk
variable {α : Type} [DecidableEq α]

/-! ### the order of removal -/
/-- level by level, from the depth n downwards: the levels n, n - 1, .., n - i + 1 -/
def remL (dep : α → Nat) (ns : List α) (n : Nat) : Nat → List α
  | 0 => []
  | i + 1 => remL dep ns n i ++ ns.filter fun x => decide (dep x = n - i)
/-- sorted by the depth, the greatest first, stably -/
def remP (dep : α → Nat) (ns : List α) : List α := ns.mergeSort fun a b => decide (dep b ≤ dep a)
section
variable {dep : α → Nat} {ns : List α} {n : Nat}
theorem remL_mem : ∀ {i : Nat} {x : α}, x ∈ remL dep ns n i → x ∈ ns ∧ ∃ j, j < i ∧ dep x = n - j
  | 0, _, h => absurd h (by simp [remL])
  | i + 1, x, h => by
    unfold remL at h
    rcases List.mem_append.mp h with h | h
    · obtain ⟨h1, j, hj, e⟩ := remL_mem h
      exact ⟨h1, j, Nat.lt_succ_of_lt hj, e⟩
    · obtain ⟨h1, h2⟩ := List.mem_filter.mp h
      exact ⟨h1, i, Nat.lt_succ_self _, of_decide_eq_true h2⟩
theorem remL_sorted : ∀ {i : Nat}, i ≤ n → (remL dep ns n i).Pairwise fun a b => dep b ≤ dep a
  | 0, _ => by simp [remL]
  | i + 1, h => by
    unfold remL
    rw [List.pairwise_append]
    refine ⟨remL_sorted (Nat.le_of_succ_le h), ?_, fun a ha b hb => ?_⟩
    · refine List.pairwise_of_forall_mem_list fun a ha b hb => ?_
      have h1 := of_decide_eq_true (List.mem_filter.mp ha).2
      have h2 := of_decide_eq_true (List.mem_filter.mp hb).2
      omega
    · obtain ⟨_, j, hj, e⟩ := remL_mem ha
      have h2 := of_decide_eq_true (List.mem_filter.mp hb).2
      omega
theorem remL_level {k : Nat} : ∀ {i : Nat}, i ≤ n → (remL dep ns n i).filter (fun x => decide (dep x = k)) = if n - i < k ∧ k ≤ n then ns.filter (fun x => decide (dep x = k)) else []
  | 0, _ => by
    rw [if_neg (by omega)]
    simp [remL]
  | i + 1, h => by
    unfold remL
    rw [List.filter_append, remL_level (Nat.le_of_succ_le h), List.filter_filter]
    by_cases e : k = n - i
    · rw [if_neg (by omega), if_pos (by omega), List.nil_append]
      refine List.filter_congr fun x _ => ?_
      subst e
      simp
    · have z : (ns.filter fun x => decide (dep x = k) && decide (dep x = n - i)) = [] := by
        refine List.filter_eq_nil_iff.mpr fun x _ => ?_
        simp only [Bool.and_eq_true, decide_eq_true_eq, not_and]
        omega
      rw [z, List.append_nil]
      by_cases c : n - i < k ∧ k ≤ n
      · rw [if_pos c, if_pos (by omega)]
      · rw [if_neg c, if_neg (by omega)]
theorem remP_sorted : (remP dep ns).Pairwise fun a b => dep b ≤ dep a := by
  unfold remP
  have h := List.pairwise_mergeSort (le := fun a b : α => decide (dep b ≤ dep a)) (fun a b c h1 h2 => by
    simp only [decide_eq_true_eq] at h1 h2 ⊢; omega) (fun a b => by
    simp only [Bool.or_eq_true, decide_eq_true_eq]; omega) ns
  exact h.imp fun h => of_decide_eq_true h
theorem remP_perm : (remP dep ns).Perm ns := List.mergeSort_perm _ _
theorem remP_level (k : Nat) : (remP dep ns).filter (fun x => decide (dep x = k)) = ns.filter (fun x => decide (dep x = k)) := by
  have hp : (ns.filter fun x => decide (dep x = k)).Pairwise fun a b => decide (dep b ≤ dep a) = true := by
    refine List.pairwise_of_forall_mem_list fun a ha b hb => ?_
    have h1 := of_decide_eq_true (List.mem_filter.mp ha).2
    have h2 := of_decide_eq_true (List.mem_filter.mp hb).2
    exact decide_eq_true (by omega)
  have hs : (ns.filter fun x => decide (dep x = k)).Sublist (remP dep ns) := by
    unfold remP
    exact List.sublist_mergeSort (le := fun a b : α => decide (dep b ≤ dep a)) (fun a b c h1 h2 => by
      simp only [decide_eq_true_eq] at h1 h2 ⊢; omega) (fun a b => by
      simp only [Bool.or_eq_true, decide_eq_true_eq]; omega) hp List.filter_sublist
  have h2 := hs.filter fun x => decide (dep x = k)
  rw [List.filter_filter] at h2
  simp only [Bool.and_self] at h2
  refine (h2.eq_of_length ?_).symm
  exact ((remP_perm (dep := dep) (ns := ns)).filter _).length_eq.symm
/-- two lists that fall in depth and have the same levels are one -/
theorem level_one : ∀ {l m : List α}, l.Pairwise (fun a b => dep b ≤ dep a) → m.Pairwise (fun a b => dep b ≤ dep a) →
    (∀ k, l.filter (fun x => decide (dep x = k)) = m.filter (fun x => decide (dep x = k))) → l = m
  | [], [], _, _, _ => rfl
  | [], b :: m, _, _, h => by
    have := h (dep b)
    simp at this
  | a :: l, [], _, _, h => by
    have := h (dep a)
    simp at this
  | a :: l, b :: m, hl, hm, h => by
    have ha : a ∈ (b :: m).filter fun x => decide (dep x = dep a) := by rw [← h (dep a)]; simp
    have hb : b ∈ (a :: l).filter fun x => decide (dep x = dep b) := by rw [h (dep b)]; simp
    have d1 : dep a ≤ dep b := by
      rcases List.mem_cons.mp (List.mem_filter.mp ha).1 with e | e
      · rw [e]; exact Nat.le_refl _
      · exact (List.pairwise_cons.mp hm).1 a e
    have d2 : dep b ≤ dep a := by
      rcases List.mem_cons.mp (List.mem_filter.mp hb).1 with e | e
      · rw [e]; exact Nat.le_refl _
      · exact (List.pairwise_cons.mp hl).1 b e
    have e : dep a = dep b := Nat.le_antisymm d1 d2
    have h1 := h (dep a)
    rw [List.filter_cons_of_pos (by simp), List.filter_cons_of_pos (by simp [e])] at h1
    have hab := (List.cons.inj h1).1
    subst hab
    have ih := level_one (l := l) (m := m) (List.pairwise_cons.mp hl).2 (List.pairwise_cons.mp hm).2 fun k => by
      have hk := h k
      by_cases c : dep a = k
      · rw [List.filter_cons_of_pos (by simp [c]), List.filter_cons_of_pos (by simp [c])] at hk
        exact (List.cons.inj hk).2
      · rw [List.filter_cons_of_neg (by simp [c]), List.filter_cons_of_neg (by simp [c])] at hk
        exact hk
    rw [ih]
theorem rem_eq (h : ∀ x ∈ ns, 1 ≤ dep x ∧ dep x ≤ n) : remL dep ns n n = remP dep ns := by
  refine level_one (dep := dep) (remL_sorted (Nat.le_refl _)) remP_sorted fun k => ?_
  rw [remL_level (Nat.le_refl _), remP_level]
  by_cases c : n - n < k ∧ k ≤ n
  · rw [if_pos c]
  · rw [if_neg c]
    symm
    refine List.filter_eq_nil_iff.mpr fun x hx => ?_
    have := h x hx
    simp only [decide_eq_true_eq]
    omega
end

/-! ### the fullest weir -/
/-- the rights that pass a weir -/
def pass (wy : α → List α) (ns : List α) (w : α) : List α := ns.filter fun x => decide (w ∈ wy x)
/-- one turn of the search -/
def stepW (wy : α → List α) (ns : List α) (b w : α) : α := if (pass wy ns b).length < (pass wy ns w).length then w else b
def stepL (wy : α → List α) (ns : List α) (b : α × List α) (w : α) : α × List α := if b.2.length < (pass wy ns w).length then (w, pass wy ns w) else b
def bestW (wy : α → List α) (ns : List α) (w0 : α) (ws : List α) : α := ws.foldl (stepW wy ns) w0
section
variable {wy : α → List α} {ns : List α}
theorem stepL_fold : ∀ (ws : List α) (b : α), ws.foldl (stepL wy ns) (b, pass wy ns b) = (bestW wy ns b ws, pass wy ns (bestW wy ns b ws))
  | [], _ => rfl
  | w :: ws, b => by
    unfold bestW
    rw [List.foldl_cons, List.foldl_cons]
    have e : stepL wy ns (b, pass wy ns b) w = (stepW wy ns b w, pass wy ns (stepW wy ns b w)) := by
      unfold stepL stepW
      split <;> rfl
    rw [e]
    exact stepL_fold ws _
/-- the law's search, that begins with no rights at all, ends alike -/
theorem best_law (w0 : α) (ws : List α) : (w0 :: ws).foldl (stepL wy ns) (w0, []) = (bestW wy ns w0 (w0 :: ws), pass wy ns (bestW wy ns w0 (w0 :: ws))) := by
  have e1 : stepL wy ns (w0, []) w0 = (w0, pass wy ns w0) := by
    unfold stepL
    by_cases h : 0 < (pass wy ns w0).length
    · rw [if_pos (by simpa using h)]
    · have : pass wy ns w0 = [] := List.eq_nil_of_length_eq_zero (by omega)
      rw [this]
      simp
  have e2 : stepW wy ns w0 w0 = w0 := by
    unfold stepW
    rw [if_neg (Nat.lt_irrefl _)]
  rw [List.foldl_cons, e1, stepL_fold]
  have e3 : bestW wy ns w0 (w0 :: ws) = bestW wy ns w0 ws := by
    unfold bestW
    rw [List.foldl_cons, e2]
  rw [e3]
theorem best_ge : ∀ (ws : List α) (b : α), (pass wy ns b).length ≤ (pass wy ns (bestW wy ns b ws)).length ∧ ∀ w ∈ ws, (pass wy ns w).length ≤ (pass wy ns (bestW wy ns b ws)).length
  | [], _ => ⟨Nat.le_refl _, by simp⟩
  | w :: ws, b => by
    have ih := best_ge ws (stepW wy ns b w)
    have e : bestW wy ns b (w :: ws) = bestW wy ns (stepW wy ns b w) ws := rfl
    rw [e]
    have s1 : (pass wy ns b).length ≤ (pass wy ns (stepW wy ns b w)).length := by
      unfold stepW; split
      · rename_i h; exact Nat.le_of_lt h
      · exact Nat.le_refl _
    have s2 : (pass wy ns w).length ≤ (pass wy ns (stepW wy ns b w)).length := by
      unfold stepW; split
      · exact Nat.le_refl _
      · rename_i h; exact Nat.le_of_not_lt h
    refine ⟨Nat.le_trans s1 ih.1, fun v hv => ?_⟩
    rcases List.mem_cons.mp hv with rfl | hv
    · exact Nat.le_trans s2 ih.1
    · exact ih.2 v hv
theorem best_mem : ∀ (ws : List α) (b : α), bestW wy ns b ws = b ∨ bestW wy ns b ws ∈ ws
  | [], _ => .inl rfl
  | w :: ws, b => by
    have ih := best_mem ws (stepW wy ns b w)
    have e : bestW wy ns b (w :: ws) = bestW wy ns (stepW wy ns b w) ws := rfl
    rw [e]
    rcases ih with ih | ih
    · rw [ih]
      unfold stepW
      split
      · exact .inr List.mem_cons_self
      · exact .inl rfl
    · exact .inr (List.mem_cons_of_mem _ ih)
end

/-! ### rights -/
def nms (rts : List (α × α × α)) : List α := rts.map (·.1)
/-- the way of a right, by its name -/
def wyOf (sea : α) (rows : List (α × α)) (rts : List (α × α × α)) (x : α) : List α := ((rts.find? fun r => decide (r.1 = x)).map fun r => way sea rows r.2.1 r.2.2).getD []
def lwOf (sea : α) (rows : List (α × α)) (rts : List (α × α × α)) (x : α) : α := (wyOf sea rows rts x).getLast?.getD sea
def dpOf (sea : α) (rows : List (α × α)) (rts : List (α × α × α)) (x : α) : Nat := depth sea rows (lwOf sea rows rts x)
structure GoodRights (sea : α) (rows : List (α × α)) (rts : List (α × α × α)) : Prop where
  nd : (nms rts).Nodup
  ok : ∀ r ∈ rts, r.2.1 ∈ rows.map (·.1) ∧ (r.2.2 = sea ∨ r.2.2 ∈ course sea rows r.2.1)
theorem find_of : ∀ {rts : List (α × α × α)}, (nms rts).Nodup → ∀ {r : α × α × α}, r ∈ rts → rts.find? (fun q => decide (q.1 = r.1)) = some r
  | [], _, _, h => absurd h (by simp)
  | q :: qs, nd, r, h => by
    unfold nms at nd
    rw [List.map_cons, List.nodup_cons] at nd
    rw [List.find?_cons]
    rcases List.mem_cons.mp h with e | h
    · subst e; simp
    · have hne : q.1 ≠ r.1 := fun e => nd.1 (List.mem_map.mpr ⟨r, h, e.symm⟩)
      simp only [decide_eq_false hne]
      exact find_of nd.2 h
section
variable {sea : α} {rows : List (α × α)} {rts : List (α × α × α)}
theorem wyOf_of (R : GoodRights sea rows rts) {r : α × α × α} (h : r ∈ rts) : wyOf sea rows rts r.1 = way sea rows r.2.1 r.2.2 := by
  unfold wyOf
  rw [find_of R.nd h]
  rfl
/-- what is known of the way of a name -/
theorem wy_cut (G : GoodRiver sea rows) (R : GoodRights sea rows rts) {x : α} (h : x ∈ nms rts) :
    ∃ i pre z post, i ∈ rows.map (·.1) ∧ wyOf sea rows rts x = pre ++ [z] ∧ course sea rows i = pre ++ z :: post ∧ lwOf sea rows rts x = z := by
  unfold nms at h
  obtain ⟨r, hr, e⟩ := List.mem_map.mp h
  subst e
  obtain ⟨h1, h2⟩ := R.ok r hr
  obtain ⟨pre, z, post, e1, e2⟩ := way_cut G h1 h2
  refine ⟨r.2.1, pre, z, post, h1, by rw [wyOf_of R hr]; exact e1, e2, ?_⟩
  unfold lwOf
  rw [wyOf_of R hr, e1]
  simp
theorem lw_in (G : GoodRiver sea rows) (R : GoodRights sea rows rts) {x : α} (h : x ∈ nms rts) : lwOf sea rows rts x ∈ wyOf sea rows rts x := by
  obtain ⟨i, pre, z, post, _, e1, _, e3⟩ := wy_cut G R h
  rw [e1, e3]
  simp
theorem wy_weir (G : GoodRiver sea rows) (R : GoodRights sea rows rts) {x : α} (h : x ∈ nms rts) : ∀ w ∈ wyOf sea rows rts x, w ∈ rows.map (·.1) := by
  obtain ⟨i, pre, z, post, h1, e1, e2, e3⟩ := wy_cut G R h
  intro w hw
  refine IsPath.mem (x := w) (G.path h1) w ?_
  rw [e2]
  rw [e1] at hw
  rcases List.mem_append.mp hw with hw | hw
  · exact List.mem_append_left _ hw
  · have : w = z := by simpa using hw
    subst this
    simp
theorem dp_bounds (G : GoodRiver sea rows) (R : GoodRights sea rows rts) {x : α} (h : x ∈ nms rts) : 1 ≤ dpOf sea rows rts x ∧ dpOf sea rows rts x ≤ rows.length := by
  have hm := wy_weir G R h _ (lw_in G R h)
  refine ⟨?_, G.len hm⟩
  unfold dpOf depth
  obtain ⟨r, e⟩ := G.start hm
  rw [e]
  simp
theorem key (G : GoodRiver sea rows) (R : GoodRights sea rows rts) {a b : α} (ha : a ∈ nms rts) (hb : b ∈ nms rts) (hd : dpOf sea rows rts b ≤ dpOf sea rows rts a)
    (hm : meets (wyOf sea rows rts) a b = true) : lwOf sea rows rts a ∈ wyOf sea rows rts b := by
  obtain ⟨i, pa, x, qa, hi, eA, cA, lA⟩ := wy_cut G R ha
  obtain ⟨j, pb, y, qb, hj, eB, cB, lB⟩ := wy_cut G R hb
  obtain ⟨w, wA, wB⟩ := meets_iff.mp hm
  unfold dpOf at hd
  rw [lA, lB] at hd
  rw [lA]
  exact last_in G hi hj eA cA eB cB hd wA wB

/-- the order of removal -/
def rem (sea : α) (rows : List (α × α)) (rts : List (α × α × α)) : List α := remP (dpOf sea rows rts) (nms rts)
theorem rem_law (G : GoodRiver sea rows) (R : GoodRights sea rows rts) : remL (dpOf sea rows rts) (nms rts) rows.length rows.length = rem sea rows rts :=
  rem_eq fun x hx => dp_bounds G R hx
theorem rem_perm : (rem sea rows rts).Perm (nms rts) := remP_perm
theorem rem_nodup (R : GoodRights sea rows rts) : (rem sea rows rts).Nodup := (rem_perm).nodup_iff.mpr R.nd
theorem rem_key (G : GoodRiver sea rows) (R : GoodRights sea rows rts) : (rem sea rows rts).Pairwise fun a b => meets (wyOf sea rows rts) a b = true → lwOf sea rows rts a ∈ wyOf sea rows rts b := by
  refine List.Pairwise.imp_of_mem (fun {a b} ha hb hd hm => ?_) (remP_sorted (dep := dpOf sea rows rts) (ns := nms rts))
  exact key G R (rem_perm.mem_iff.mp ha) (rem_perm.mem_iff.mp hb) hd hm

/-! ### what the law asks of the turns -/
/-- the turns as they are dealt -/
def dealt (sea : α) (rows : List (α × α)) (rts : List (α × α × α)) : List (List α) := deal (clash (wyOf sea rows rts)) (rem sea rows rts).reverse
/-- the turns as they are told: each in the order of rights -/
def told (sea : α) (rows : List (α × α)) (rts : List (α × α × α)) : List (List α) := (dealt sea rows rts).map fun t => (nms rts).filter fun x => decide (x ∈ t)
theorem dealt_perm : (dealt sea rows rts).flatten.Perm (nms rts) := (deal_perm _ _).trans ((List.reverse_perm _).trans rem_perm)
theorem dealt_prog (R : GoodRights sea rows rts) : deal (clashP (wyOf sea rows rts) (nms rts)) (rem sea rows rts).reverse = dealt sea rows rts :=
  dealP_eq (fun x hx => rem_perm.mem_iff.mp (List.mem_reverse.mp hx)) ((List.reverse_perm _).nodup_iff.mpr (rem_nodup R))
theorem nodup_flatten_mem {ts : List (List α)} (h : ts.flatten.Nodup) {t : List α} (ht : t ∈ ts) : t.Nodup := by
  unfold List.Nodup at h
  rw [List.pairwise_flatten] at h
  exact h.1 t ht
theorem told_one (R : GoodRights sea rows rts) {t : List α} (ht : t ∈ dealt sea rows rts) : ((nms rts).filter fun x => decide (x ∈ t)).Perm t := by
  have hf : (dealt sea rows rts).flatten.Nodup := dealt_perm.nodup_iff.mpr R.nd
  refine (List.perm_ext_iff_of_nodup (R.nd.filter _) (nodup_flatten_mem hf ht)).mpr fun x => ?_
  rw [List.mem_filter, decide_eq_true_eq]
  exact ⟨fun h => h.2, fun h => ⟨dealt_perm.mem_iff.mp (List.mem_flatten.mpr ⟨t, ht, h⟩), h⟩⟩
theorem told_perm (R : GoodRights sea rows rts) : (told sea rows rts).flatten.Perm (nms rts) := by
  refine List.Perm.trans ?_ (dealt_perm (sea := sea) (rows := rows))
  have key : ∀ ts : List (List α), (∀ t ∈ ts, ((nms rts).filter fun x => decide (x ∈ t)).Perm t) → ((ts.map fun t => (nms rts).filter fun x => decide (x ∈ t)).flatten).Perm ts.flatten := by
    intro ts
    induction ts with
    | nil => intro _; exact List.Perm.refl _
    | cons t ts ih =>
      intro h
      rw [List.map_cons, List.flatten_cons, List.flatten_cons]
      exact (h t List.mem_cons_self).append (ih fun u hu => h u (List.mem_cons_of_mem _ hu))
  exact key _ fun t ht => told_one R ht
structure TurnOk (wy : α → List α) (ns T : List α) : Prop where
  ne : T ≠ []
  same : T = ns.filter fun x => decide (x ∈ T)
  apart : T.Pairwise fun a b => meets wy a b = false
theorem told_ok (R : GoodRights sea rows rts) : ∀ T ∈ told sea rows rts, TurnOk (wyOf sea rows rts) (nms rts) T := by
  intro T hT
  unfold told at hT
  obtain ⟨t, ht, e⟩ := List.mem_map.mp hT
  have hp := told_one R ht
  obtain ⟨h1, h2⟩ := turns_apart t ht
  rw [e] at hp
  refine ⟨fun z => h1 ?_, ?_, ?_⟩
  · rw [z] at hp
    exact List.Perm.nil_eq hp |>.symm
  · conv => lhs; rw [← e]
    refine List.filter_congr fun x hx => ?_
    rw [decide_eq_decide]
    exact hp.mem_iff.symm
  · exact (hp.pairwise_iff fun {a b} h => meets_symm_false h).mpr h2
theorem told_len (G : GoodRiver sea rows) (R : GoodRights sea rows rts) {w0 : α} {ws : List α} (e : rows.map (·.1) = w0 :: ws) :
    (told sea rows rts).length = (pass (wyOf sea rows rts) (nms rts) (bestW (wyOf sea rows rts) (nms rts) w0 (w0 :: ws))).length := by
  unfold told
  rw [List.length_map]
  have hpm : ∀ w, ((rem sea rows rts).reverse.filter fun y => decide (w ∈ wyOf sea rows rts y)).length = (pass (wyOf sea rows rts) (nms rts) w).length := fun w =>
    (((List.reverse_perm _).trans rem_perm).filter _).length_eq
  have hb := best_ge (wy := wyOf sea rows rts) (ns := nms rts) (w0 :: ws) w0
  refine Nat.le_antisymm ?_ ?_
  · have hk := rem_key G R
    have hk2 : (rem sea rows rts).reverse.Pairwise fun a b => meets (wyOf sea rows rts) b a = true → lwOf sea rows rts b ∈ wyOf sea rows rts a := List.pairwise_reverse.mpr hk
    rcases turns_few (l := (rem sea rows rts).reverse) (wy := wyOf sea rows rts) (lwOf sea rows rts) (fun x hx => lw_in G R (rem_perm.mem_iff.mp (List.mem_reverse.mp hx))) hk2 with h | ⟨x, hx, h⟩
    · unfold dealt
      rw [h]
      exact Nat.zero_le _
    · refine Nat.le_trans h ?_
      rw [hpm]
      have hxn := rem_perm.mem_iff.mp (List.mem_reverse.mp hx)
      have hw := wy_weir G R hxn _ (lw_in G R hxn)
      rw [e] at hw
      exact hb.2 _ hw
  · rw [← hpm]
    exact turns_many _

/-! ### .. and of apart and guards -/
def apt (sea : α) (rows : List (α × α)) (rts : List (α × α × α)) : List α := pick (clash (wyOf sea rows rts)) (rem sea rows rts)
theorem apt_prog (R : GoodRights sea rows rts) : pick (clashP (wyOf sea rows rts) (nms rts)) (rem sea rows rts) = apt sea rows rts :=
  pickP_eq (fun x hx => rem_perm.mem_iff.mp hx) (rem_nodup R)
theorem apt_sub : ∀ x ∈ apt sea rows rts, x ∈ nms rts := fun x hx => rem_perm.mem_iff.mp (pick_sub _ _ x hx)
theorem apt_apart : (apt sea rows rts).Pairwise fun a b => meets (wyOf sea rows rts) a b = false := pick_apart
theorem apt_guard (G : GoodRiver sea rows) (R : GoodRights sea rows rts) : ∀ x ∈ nms rts, ∃ w ∈ (apt sea rows rts).map (lwOf sea rows rts), w ∈ wyOf sea rows rts x := by
  intro x hx
  obtain ⟨y, hy, h⟩ := pick_guard (l := rem sea rows rts) (wy := wyOf sea rows rts) (lwOf sea rows rts) (fun z hz => lw_in G R (rem_perm.mem_iff.mp hz)) (rem_key G R) x (rem_perm.mem_iff.mpr hx)
  exact ⟨_, List.mem_map.mpr ⟨y, hy, rfl⟩, h⟩
end
end Wk

/-! The text by places; what the walk asks of the top. -/
namespace Wk
open PySem L2
def top (i : Nat) : Stmt := PySem.Challenge.pw_weirkeepers_k07_whole_turns_and_guards.main.body.getD i (.Pass ⟨0, 0, 0, 0⟩)
abbrev sMeet : Stmt := top 9
abbrev sMetBy : Stmt := top 10
abbrev sRemNames : Stmt := top 12
abbrev sFullest : Stmt := top 14
abbrev sTurns : Stmt := top 15
abbrev sApart : Stmt := top 16
abbrev sGuards : Stmt := top 17
abbrev sIsName : Stmt := top 21
abbrev sWrongRow : Stmt := top 22
abbrev sReaches : Stmt := top 23
abbrev sRivFault : Stmt := top 24
abbrev sCourseOf : Stmt := top 25
abbrev sVInit : Stmt := inClass (top 26) 0
abbrev sVNeed : Stmt := inClass (top 26) 4
abbrev sVRows : Stmt := inClass (top 26) 5
abbrev sVCourse : Stmt := inClass (top 26) 8
abbrev sVDepth : Stmt := inClass (top 26) 9
abbrev sVIsDown : Stmt := inClass (top 26) 11
abbrev sVWay : Stmt := inClass (top 26) 13
abbrev sWrongRight : Stmt := top 29
abbrev sRtsFault : Stmt := top 30
abbrev sRInit : Stmt := inClass (top 31) 0
abbrev sRNeed : Stmt := inClass (top 31) 4
abbrev sRRows : Stmt := inClass (top 31) 5
abbrev sRLast : Stmt := inClass (top 31) 7
abbrev sRWay : Stmt := inClass (top 31) 9
abbrev sRPassing : Stmt := inClass (top 31) 11
abbrev sLBag : Stmt := top 33
abbrev sLTake : Stmt := top 34
abbrev sLOf : Stmt := top 35
abbrev sLMixed : Stmt := top 36
abbrev sLNames : Stmt := top 37
abbrev sLRiver : Stmt := top 38
abbrev sLCourse : Stmt := top 39
abbrev sLRightNames : Stmt := top 40
abbrev sLRights : Stmt := top 41
abbrev sLWay : Stmt := top 42
abbrev sLMeets : Stmt := top 43
abbrev sLRemoval : Stmt := top 44
abbrev sLFullest : Stmt := top 45
abbrev sLTurnsRight : Stmt := top 46
abbrev sLApartRight : Stmt := top 47
abbrev sLaw : Stmt := top 48
/-- where the top has put each def; the two classes; the code object of removal_names and its table -/
structure Adr where
  cV : Addr
  cR : Addr
  cR0 : Addr
  pR0 : Addr
  fMeet : Addr
  dMeet : FuncData
  fMetBy : Addr
  dMetBy : FuncData
  fRemNames : Addr
  dRemNames : FuncData
  fFullest : Addr
  dFullest : FuncData
  fTurns : Addr
  dTurns : FuncData
  fApart : Addr
  dApart : FuncData
  fGuards : Addr
  dGuards : FuncData
  fIsName : Addr
  dIsName : FuncData
  fWrongRow : Addr
  dWrongRow : FuncData
  fReaches : Addr
  dReaches : FuncData
  fRivFault : Addr
  dRivFault : FuncData
  fCourseOf : Addr
  dCourseOf : FuncData
  fVInit : Addr
  dVInit : FuncData
  fVNeed : Addr
  dVNeed : FuncData
  fVRows : Addr
  dVRows : FuncData
  fVCourse : Addr
  dVCourse : FuncData
  fVDepth : Addr
  dVDepth : FuncData
  fVIsDown : Addr
  dVIsDown : FuncData
  fVWay : Addr
  dVWay : FuncData
  fWrongRight : Addr
  dWrongRight : FuncData
  fRtsFault : Addr
  dRtsFault : FuncData
  fRInit : Addr
  dRInit : FuncData
  fRNeed : Addr
  dRNeed : FuncData
  fRRows : Addr
  dRRows : FuncData
  fRLast : Addr
  dRLast : FuncData
  fRWay : Addr
  dRWay : FuncData
  fRPassing : Addr
  dRPassing : FuncData
  fLBag : Addr
  dLBag : FuncData
  fLTake : Addr
  dLTake : FuncData
  fLOf : Addr
  dLOf : FuncData
  fLMixed : Addr
  dLMixed : FuncData
  fLNames : Addr
  dLNames : FuncData
  fLRiver : Addr
  dLRiver : FuncData
  fLCourse : Addr
  dLCourse : FuncData
  fLRightNames : Addr
  dLRightNames : FuncData
  fLRights : Addr
  dLRights : FuncData
  fLWay : Addr
  dLWay : FuncData
  fLMeets : Addr
  dLMeets : FuncData
  fLRemoval : Addr
  dLRemoval : FuncData
  fLFullest : Addr
  dLFullest : FuncData
  fLTurnsRight : Addr
  dLTurnsRight : FuncData
  fLApartRight : Addr
  dLApartRight : FuncData
  fLaw : Addr
  dLaw : FuncData
structure Txt (K : PySem.W.Frag) (mg : Str → Option Value) (A : Adr) : Prop where
  clV : Cls K A.cV
  clR : Cls K A.cR
  mkV : Mk K A.cV A.fVInit
  mkR : Mk K A.cR A.fRInit
  mgV : mg "River" = some (.ref A.cV)
  mgR : mg "Rights" = some (.ref A.cR)
  nV_weirs : NoAttr K A.cV "weirs"
  nV_lower : NoAttr K A.cV "lower"
  nV_courses : NoAttr K A.cV "courses"
  nR_river : NoAttr K A.cR "river"
  nR_names : NoAttr K A.cR "names"
  nR_entries : NoAttr K A.cR "entries"
  nR_ways : NoAttr K A.cR "ways"
  nR_stops : NoAttr K A.cR "stops"
  b_len : mg "len" = none
  b_isinstance : mg "isinstance" = none
  b_all : mg "all" = none
  b_any : mg "any" = none
  b_tuple : mg "tuple" = none
  b_list : mg "list" = none
  b_sorted : mg "sorted" = none
  b_enumerate : mg "enumerate" = none
  b_range : mg "range" = none
  b_dict : mg "dict" = none
  b_int : mg "int" = none
  b_abs : mg "abs" = none
  b_max : mg "max" = none
  b_min : mg "min" = none
  b_str : mg "str" = none
  mgMW : ∃ t, mg "MOST_WEIRS" = some (.int 40 t)
  mgMR : ∃ t, mg "MOST_RIGHTS" = some (.int 40 t)
  mgLE : ∃ t, mg "LETTERS" = some (.str "abcdefghijklmnopqrstuvwxyz" t)
  fnMeet : Fun K "meet" "meet" sMeet A.fMeet A.dMeet
  bdMeet : Binds K A.dMeet ["rights", "one", "other"] []
  mgMeet : mg "meet" = some (.ref A.fMeet)
  fnMetBy : Fun K "met_by" "met_by" sMetBy A.fMetBy A.dMetBy
  bdMetBy : Binds K A.dMetBy ["rights", "name"] []
  mgMetBy : mg "met_by" = some (.ref A.fMetBy)
  fnRemNames : Fun K "removal_names" "removal_names" sRemNames A.fRemNames A.dRemNames
  bdRemNames : Binds K A.dRemNames ["rights"] []
  mgRemNames : mg "removal_names" = some (.ref A.fRemNames)
  fnFullest : Fun K "fullest" "fullest" sFullest A.fFullest A.dFullest
  bdFullest : Binds K A.dFullest ["rights"] []
  mgFullest : mg "fullest" = some (.ref A.fFullest)
  fnTurns : Fun K "turns" "turns" sTurns A.fTurns A.dTurns
  bdTurns : Binds K A.dTurns ["rights"] []
  mgTurns : mg "turns" = some (.ref A.fTurns)
  fnApart : Fun K "apart" "apart" sApart A.fApart A.dApart
  bdApart : Binds K A.dApart ["rights"] []
  mgApart : mg "apart" = some (.ref A.fApart)
  fnGuards : Fun K "guards" "guards" sGuards A.fGuards A.dGuards
  bdGuards : Binds K A.dGuards ["rights"] []
  mgGuards : mg "guards" = some (.ref A.fGuards)
  fnIsName : Fun K "is_name" "is_name" sIsName A.fIsName A.dIsName
  bdIsName : Binds K A.dIsName ["value"] []
  mgIsName : mg "is_name" = some (.ref A.fIsName)
  fnWrongRow : Fun K "is_wrong_row" "is_wrong_row" sWrongRow A.fWrongRow A.dWrongRow
  bdWrongRow : Binds K A.dWrongRow ["entry", "earlier"] []
  mgWrongRow : mg "is_wrong_row" = some (.ref A.fWrongRow)
  fnReaches : Fun K "reaches_sea" "reaches_sea" sReaches A.fReaches A.dReaches
  bdReaches : Binds K A.dReaches ["weir", "lower"] []
  mgReaches : mg "reaches_sea" = some (.ref A.fReaches)
  fnRivFault : Fun K "river_fault" "river_fault" sRivFault A.fRivFault A.dRivFault
  bdRivFault : Binds K A.dRivFault ["rows"] []
  mgRivFault : mg "river_fault" = some (.ref A.fRivFault)
  fnCourseOf : Fun K "course_of" "course_of" sCourseOf A.fCourseOf A.dCourseOf
  bdCourseOf : Binds K A.dCourseOf ["weir", "lower"] []
  mgCourseOf : mg "course_of" = some (.ref A.fCourseOf)
  fnVInit : Fun K "__init__" "River.__init__" sVInit A.fVInit A.dVInit
  bdVInit : Binds K A.dVInit ["self", "rows"] []
  fnVNeed : Fun K "need" "River.need" sVNeed A.fVNeed A.dVNeed
  bdVNeed : Binds K A.dVNeed ["self", "weir"] []
  mtVNeed : Meth K A.cV "need" A.fVNeed
  fnVRows : Fun K "rows" "River.rows" sVRows A.fVRows A.dVRows
  bdVRows : Binds K A.dVRows ["self"] []
  mtVRows : Meth K A.cV "rows" A.fVRows
  fnVCourse : Fun K "course" "River.course" sVCourse A.fVCourse A.dVCourse
  bdVCourse : Binds K A.dVCourse ["self", "weir"] []
  mtVCourse : Meth K A.cV "course" A.fVCourse
  fnVDepth : Fun K "depth" "River.depth" sVDepth A.fVDepth A.dVDepth
  bdVDepth : Binds K A.dVDepth ["self", "weir"] []
  mtVDepth : Meth K A.cV "depth" A.fVDepth
  fnVIsDown : Fun K "is_down" "River.is_down" sVIsDown A.fVIsDown A.dVIsDown
  bdVIsDown : Binds K A.dVIsDown ["self", "high", "low"] []
  mtVIsDown : Meth K A.cV "is_down" A.fVIsDown
  fnVWay : Fun K "way" "River.way" sVWay A.fVWay A.dVWay
  bdVWay : Binds K A.dVWay ["self", "intake", "last"] []
  mtVWay : Meth K A.cV "way" A.fVWay
  fnWrongRight : Fun K "is_wrong_right" "is_wrong_right" sWrongRight A.fWrongRight A.dWrongRight
  bdWrongRight : Binds K A.dWrongRight ["river", "entry", "earlier"] []
  mgWrongRight : mg "is_wrong_right" = some (.ref A.fWrongRight)
  fnRtsFault : Fun K "rights_fault" "rights_fault" sRtsFault A.fRtsFault A.dRtsFault
  bdRtsFault : Binds K A.dRtsFault ["river", "rows"] []
  mgRtsFault : mg "rights_fault" = some (.ref A.fRtsFault)
  fnRInit : Fun K "__init__" "Rights.__init__" sRInit A.fRInit A.dRInit
  bdRInit : Binds K A.dRInit ["self", "river", "rows"] []
  fnRNeed : Fun K "need" "Rights.need" sRNeed A.fRNeed A.dRNeed
  bdRNeed : Binds K A.dRNeed ["self", "name"] []
  mtRNeed : Meth K A.cR "need" A.fRNeed
  fnRRows : Fun K "rows" "Rights.rows" sRRows A.fRRows A.dRRows
  bdRRows : Binds K A.dRRows ["self"] []
  mtRRows : Meth K A.cR "rows" A.fRRows
  fnRLast : Fun K "last" "Rights.last" sRLast A.fRLast A.dRLast
  bdRLast : Binds K A.dRLast ["self", "name"] []
  mtRLast : Meth K A.cR "last" A.fRLast
  fnRWay : Fun K "way" "Rights.way" sRWay A.fRWay A.dRWay
  bdRWay : Binds K A.dRWay ["self", "name"] []
  mtRWay : Meth K A.cR "way" A.fRWay
  fnRPassing : Fun K "passing" "Rights.passing" sRPassing A.fRPassing A.dRPassing
  bdRPassing : Binds K A.dRPassing ["self", "weir"] []
  mtRPassing : Meth K A.cR "passing" A.fRPassing
  fnLBag : Fun K "_law_bag" "_law_bag" sLBag A.fLBag A.dLBag
  bdLBag : Binds K A.dLBag ["_law_script", "_law_at", "_law_salt"] []
  mgLBag : mg "_law_bag" = some (.ref A.fLBag)
  fnLTake : Fun K "_law_take" "_law_take" sLTake A.fLTake A.dLTake
  bdLTake : Binds K A.dLTake ["_law_bag_here", "_law_many"] []
  mgLTake : mg "_law_take" = some (.ref A.fLTake)
  fnLOf : Fun K "_law_of" "_law_of" sLOf A.fLOf A.dLOf
  bdLOf : Binds K A.dLOf ["_law_bag_here", "_law_some"] []
  mgLOf : mg "_law_of" = some (.ref A.fLOf)
  fnLMixed : Fun K "_law_mixed" "_law_mixed" sLMixed A.fLMixed A.dLMixed
  bdLMixed : Binds K A.dLMixed ["_law_bag_here", "_law_some"] []
  mgLMixed : mg "_law_mixed" = some (.ref A.fLMixed)
  fnLNames : Fun K "_law_names" "_law_names" sLNames A.fLNames A.dLNames
  bdLNames : Binds K A.dLNames ["_law_bag_here", "_law_many"] []
  mgLNames : mg "_law_names" = some (.ref A.fLNames)
  fnLRiver : Fun K "_law_river" "_law_river" sLRiver A.fLRiver A.dLRiver
  bdLRiver : Binds K A.dLRiver ["_law_bag_here", "_law_many"] []
  mgLRiver : mg "_law_river" = some (.ref A.fLRiver)
  fnLCourse : Fun K "_law_course" "_law_course" sLCourse A.fLCourse A.dLCourse
  bdLCourse : Binds K A.dLCourse ["_law_rows", "_law_weir"] []
  mgLCourse : mg "_law_course" = some (.ref A.fLCourse)
  fnLRightNames : Fun K "_law_right_names" "_law_right_names" sLRightNames A.fLRightNames A.dLRightNames
  bdLRightNames : Binds K A.dLRightNames ["_law_bag_here", "_law_rows", "_law_many"] []
  mgLRightNames : mg "_law_right_names" = some (.ref A.fLRightNames)
  fnLRights : Fun K "_law_rights" "_law_rights" sLRights A.fLRights A.dLRights
  bdLRights : Binds K A.dLRights ["_law_bag_here", "_law_rows", "_law_many"] []
  mgLRights : mg "_law_rights" = some (.ref A.fLRights)
  fnLWay : Fun K "_law_way" "_law_way" sLWay A.fLWay A.dLWay
  bdLWay : Binds K A.dLWay ["_law_rows", "_law_right"] []
  mgLWay : mg "_law_way" = some (.ref A.fLWay)
  fnLMeets : Fun K "_law_meets" "_law_meets" sLMeets A.fLMeets A.dLMeets
  bdLMeets : Binds K A.dLMeets ["_law_ways", "_law_one", "_law_other"] []
  mgLMeets : mg "_law_meets" = some (.ref A.fLMeets)
  fnLRemoval : Fun K "_law_removal" "_law_removal" sLRemoval A.fLRemoval A.dLRemoval
  bdLRemoval : Binds K A.dLRemoval ["_law_rows", "_law_ways"] []
  mgLRemoval : mg "_law_removal" = some (.ref A.fLRemoval)
  fnLFullest : Fun K "_law_fullest" "_law_fullest" sLFullest A.fLFullest A.dLFullest
  bdLFullest : Binds K A.dLFullest ["_law_rows", "_law_ways"] []
  mgLFullest : mg "_law_fullest" = some (.ref A.fLFullest)
  fnLTurnsRight : Fun K "_law_turns_right" "_law_turns_right" sLTurnsRight A.fLTurnsRight A.dLTurnsRight
  bdLTurnsRight : Binds K A.dLTurnsRight ["_law_told", "_law_rows", "_law_ways"] []
  mgLTurnsRight : mg "_law_turns_right" = some (.ref A.fLTurnsRight)
  fnLApartRight : Fun K "_law_apart_right" "_law_apart_right" sLApartRight A.fLApartRight A.dLApartRight
  bdLApartRight : Binds K A.dLApartRight ["_law_told", "_law_rows", "_law_ways"] []
  mgLApartRight : mg "_law_apart_right" = some (.ref A.fLApartRight)
  fnLaw : Fun K "law" "law" sLaw A.fLaw A.dLaw
  bdLaw : Binds K A.dLaw ["_law_script"] []
  mgLaw : mg "law" = some (.ref A.fLaw)
end Wk

/-! Readings that only make new objects: values told by a property; comprehensions and loops over anything that is walked. -/
namespace Wk
open PySem L2 Evl

/-- te gives a value of which P holds behind it -/
def EvP (te : TE) (σ : L2.St) (H : Hp) (P : V → Hp → Prop) : Prop := ∀ H1, Ex H H1 → ∀ Q : VK, (∀ v H2, Ex H1 H2 → P v H2 → Q v H2) → te σ H1 Q
/-- te gives a new list whose items are as P says -/
def EvLP (te : TE) (σ : L2.St) (H : Hp) (P : List V → Hp → Prop) : Prop := ∀ H1, Ex H H1 → ∀ Q : VK, (∀ p acc H2, H1 p = none → Ex H1 H2 → H2 p = some (.lst acc) → P acc H2 → Q (.ref p) H2) → te σ H1 Q
/-- te gives a new dict -/
def EvDP (te : TE) (σ : L2.St) (H : Hp) (P : List (Key × V) → Hp → Prop) : Prop := ∀ H1, Ex H H1 → ∀ Q : VK, (∀ p kvs H2, H1 p = none → Ex H1 H2 → H2 p = some (.dK kvs) → P kvs H2 → Q (.ref p) H2) → te σ H1 Q
def EvAP (ta : TA) (σ : L2.St) (H : Hp) (P : List V → Hp → Prop) : Prop := ∀ H1, Ex H H1 → ∀ Q : List V → Hp → Prop, (∀ vs H2, Ex H1 H2 → P vs H2 → Q vs H2) → ta σ H1 Q
/-- what a def gives back: P holds of it, all that stood stands -/
def RetP (P : V → Hp → Prop) (H : Hp) (Q : VK) : Prop := ∀ v H2, Ex H H2 → P v H2 → Q v H2
/-- P stays while what stood stands -/
def Mono {β : Type} (P : β → Hp → Prop) : Prop := ∀ b H H', Ex H H' → P b H → P b H'

section
variable {K : PySem.W.Frag} {σ : L2.St} {H H' : Hp} {ta tb te tx : TE} {x y z v : V} {P P' : V → Hp → Prop}
theorem EvP.mono (e : Ex H H') (h : EvP te σ H P) : EvP te σ H' P := fun H1 a Q q => h H1 (e.trans a) Q q
theorem EvLP.mono {P : List V → Hp → Prop} (e : Ex H H') (h : EvLP te σ H P) : EvLP te σ H' P := fun H1 a Q q => h H1 (e.trans a) Q q
theorem EvL.mono' {xs : List V} (e : Ex H H') (h : EvL te σ H xs) : EvL te σ H' xs := fun H1 a Q q => h H1 (e.trans a) Q q
theorem EvP.imp (h : EvP te σ H P) (k : ∀ v H', Ex H H' → P v H' → P' v H') : EvP te σ H P' := fun H1 a Q q => h H1 a Q fun v H2 e p => q v H2 e (k v H2 (a.trans e) p)
theorem ep_of (h : Ev te σ H v) : EvP te σ H (fun x _ => x = v) := fun H1 a Q q => h H1 a Q fun H2 e => q v H2 e rfl
theorem ep_to (h : EvP te σ H (fun x _ => x = v)) : Ev te σ H v := fun H1 a Q q => h H1 a Q fun x H2 e p => by
  have p : x = v := p
  subst p
  exact q H2 e
theorem ep_l {xs : List V} (h : EvL te σ H xs) : EvP te σ H (fun v H' => ∃ p, v = .ref p ∧ H' p = some (.lst xs)) := fun H1 a Q q => h H1 a Q fun p H2 _ e k => q _ H2 e ⟨p, rfl, k⟩
theorem ep_u {xs : List V} (h : EvU te σ H xs) : EvP te σ H (fun v H' => ∃ p, v = .ref p ∧ H' p = some (.tup xs)) := fun H1 a Q q => h H1 a Q fun p H2 _ e k => q _ H2 e ⟨p, rfl, k⟩
theorem ea_p {ta : TA} {vs : List V} (h : EvA ta σ H vs) : EvAP ta σ H (fun x _ => x = vs) := fun H1 a Q q => h H1 a Q fun H2 e => q vs H2 e rfl
/-- arguments one by one -/
theorem eap_cons {tr : TA} {P : V → Hp → Prop} {R : List V → Hp → Prop} (hm : Mono P) (h : EvP te σ H P) (hr : EvAP tr σ H R) : EvAP (tCons te tr) σ H (fun vs H' => ∃ v r, vs = v :: r ∧ P v H' ∧ R r H') := fun H1 e Q q =>
  h H1 e _ fun v H2 e2 p => hr H2 (e.trans e2) _ fun vs H3 e3 r => q _ H3 (e2.trans e3) ⟨v, vs, rfl, hm v _ _ e3 p, r⟩
theorem eap_nil : EvAP tNil σ H (fun vs _ => vs = []) := fun H1 _ _ q => q [] H1 (Ex.refl H1) rfl
/-- a def called -/
theorem ep_call {sp : Sp} {dvs : List V} {E : XK} {ta : TA} {R : List V → Hp → Prop} {P : V → Hp → Prop} (h : EvAP ta σ H R) (hs : ∀ vs H1, Ex H H1 → R vs H1 → ∀ Q : VK, RetP P H1 Q → sp (vs ++ dvs) H1 Q E) : EvP (tCall sp dvs E ta) σ H P := fun H1 e Q q =>
  h H1 e _ fun vs H2 e2 r => hs vs H2 (e.trans e2) r Q fun v H3 e3 p => q v H3 (e2.trans e3) p
theorem ep_meth {C : Addr} {m : Str} {sp : Sp} {dvs : List V} {E : XK} {ta : TA} {a dx : Addr} {fs : List (Str × V)} {R : List V → Hp → Prop} {P : V → Hp → Prop} (ho : Ev te σ H (.ref a)) (hi : H a = some (.ins C dx fs)) (hl : fs.lookup m = none) (h : EvAP ta σ H R)
    (hs : ∀ vs H1, Ex H H1 → R vs H1 → ∀ Q : VK, RetP P H1 Q → sp (.ref a :: (vs ++ dvs)) H1 Q E) : EvP (tMeth C m sp dvs E te ta) σ H P := fun H1 e Q q =>
  ho H1 e _ fun H2 e2 => ⟨a, dx, fs, rfl, e2 a _ (e a _ hi), hl, h H2 (e.trans e2) _ fun vs H3 e3 r => hs vs H3 ((e.trans e2).trans e3) r Q fun v H4 e4 p => q v H4 ((e2.trans e3).trans e4) p⟩
theorem ev_fld {f : Str} {a C dx : Addr} {fs : List (Str × V)} (h : Ev te σ H (.ref a)) (hi : H a = some (.ins C dx fs)) (hc : Cls K C) (hn : NoAttr K C f) (hl : fs.lookup f = some v) : Ev (tFld K te f) σ H v := fun H1 e Q q =>
  h H1 e _ fun H2 e2 => ⟨a, C, dx, fs, v, rfl, e2 a _ (e a _ hi), hc, hn, hl, q H2 e2⟩
theorem ex_dget {H H' : Hp} {a : Addr} {k : V} {r : Option V} (e : Ex H H') (h : DGet H a k r) : DGet H' a k r := by
  unfold DGet at h ⊢
  rcases h with ⟨kvs, k, h1, h2⟩ | ⟨kvs, xs, b, h1, h2, h3, h4⟩
  · exact .inl ⟨kvs, k, ex_rd e h1, h2⟩
  · exact .inr ⟨kvs, xs, b, ex_rd e h1, h2, e _ _ h3, h4⟩
theorem ev_dget {a : Addr} {k : Key} {kvs : List (Key × V)} (hd : Ev ta σ H (.ref a)) (hk : Ev tb σ H (kV k)) (h : Rd H a (.dK kvs)) (hv : valV kvs k = some v) : Ev (tDGet ta tb) σ H v := fun H1 e Q q =>
  hd H1 e _ fun H2 e2 => hk H2 (e.trans e2) _ fun H3 e3 => ⟨a, v, rfl, .inl ⟨kvs, k, ex_rd ((e.trans e2).trans e3) h, rfl, hv.symm⟩, q H3 (e2.trans e3)⟩
theorem ev_din {a : Addr} {k : Key} {kvs : List (Key × V)} {b : Bool} (hk : Ev ta σ H (kV k)) (hd : Ev tb σ H (.ref a)) (h : Rd H a (.dK kvs)) (hv : (valV kvs k).isSome = b) : Ev (tDIn ta tb) σ H (.bl b) := fun H1 e Q q =>
  hk H1 e _ fun H2 e2 => hd H2 (e.trans e2) _ fun H3 e3 => ⟨a, valV kvs k, rfl, .inl ⟨kvs, k, ex_rd ((e.trans e2).trans e3) h, rfl, rfl⟩, by rw [hv]; exact q H3 (e2.trans e3)⟩
theorem ev_dnotin {a : Addr} {k : Key} {kvs : List (Key × V)} {b : Bool} (hk : Ev ta σ H (kV k)) (hd : Ev tb σ H (.ref a)) (h : Rd H a (.dK kvs)) (hv : (!(valV kvs k).isSome) = b) : Ev (tDNotIn ta tb) σ H (.bl b) := fun H1 e Q q =>
  hk H1 e _ fun H2 e2 => hd H2 (e.trans e2) _ fun H3 e3 => ⟨a, valV kvs k, rfl, .inl ⟨kvs, k, ex_rd ((e.trans e2).trans e3) h, rfl, rfl⟩, by rw [hv]; exact q H3 (e2.trans e3)⟩
/-- any, all of a new list of truth values -/
theorem ev_any {bs : List Bool} (h : EvL te σ H (bs.map V.bl)) : Ev (tCB (rAny K) (tCons te tNil)) σ H (.bl (bs.any id)) := fun H1 e Q q =>
  h H1 e _ fun p H2 _ e2 h2 => ⟨p, bs, rfl, sq_of h2, q H2 e2⟩
theorem ev_all {bs : List Bool} (h : EvL te σ H (bs.map V.bl)) : Ev (tCB (rAll K) (tCons te tNil)) σ H (.bl (bs.all id)) := fun H1 e Q q =>
  h H1 e _ fun p H2 _ e2 h2 => ⟨p, bs, rfl, sq_of h2, q H2 e2⟩

/-! ### what is walked -/
/-- n turns; the item of turn i is as I says -/
def Src (wi : TI) (σ : L2.St) (H : Hp) (n : Nat) (I : Nat → V → Hp → Prop) : Prop := ∀ H1, Ex H H1 → ∀ R : It → Hp → Prop,
  (∀ J H2 (G : Hp → Prop), Ex H1 H2 → (∀ H H', Ex H H' → G H → G H') → G H2 → Walk J n G (fun i H x H' => Ex H H' ∧ I i x H') → R J H2) → wi σ H1 R
theorem Src.mono {wi : TI} {n : Nat} {I : Nat → V → Hp → Prop} (e : Ex H H') (h : Src wi σ H n I) : Src wi σ H' n I := fun H1 a R q => h H1 (e.trans a) R q
theorem walk_imp {J : It} {n : Nat} {G : Hp → Prop} {Y Y' : Nat → Hp → V → Hp → Prop} (w : Walk J n G Y) (h : ∀ i H x H', Y i H x H' → Y' i H x H') : Walk J n G Y' := ⟨w.goes, w.stops, fun i H x H' hi g y => h i H x H' (w.yields i H x H' hi g y)⟩
theorem src_list {a : Addr} {xs : List V} (h : Ev te σ H (.ref a)) (hx : SqL K H a xs) : Src (iList K te) σ H xs.length (fun i x _ => xs[i]? = some x) := fun H1 e R q =>
  h H1 e _ fun H2 e2 => ⟨a, rfl, ⟨xs, ex_l (e.trans e2) hx⟩, q _ H2 (fun H => SqL K H a xs) e2 (fun _ _ e h => ex_l e h) (ex_l (e.trans e2) hx) (walk_imp walk_list fun i H x H' y => ⟨by rw [y.1]; exact Ex.refl H, y.2⟩)⟩
theorem src_newl {xs : List V} (h : EvL te σ H xs) : Src (iList K te) σ H xs.length (fun i x _ => xs[i]? = some x) := fun H1 e R q =>
  h H1 e _ fun a H2 _ e2 hx => ⟨a, rfl, ⟨xs, sq_of hx⟩, q _ H2 (fun H => SqL K H a xs) e2 (fun _ _ e h => ex_l e h) (sq_of hx) (walk_imp walk_list fun i H x H' y => ⟨by rw [y.1]; exact Ex.refl H, y.2⟩)⟩
theorem src_tup {a : Addr} {xs : List V} (h : Ev te σ H (.ref a)) (hx : SqT K H a xs) : Src (iTup K te) σ H xs.length (fun i x _ => xs[i]? = some x) := fun H1 e R q =>
  h H1 e _ fun H2 e2 => ⟨a, rfl, ⟨xs, ex_t (e.trans e2) hx⟩, q _ H2 (fun H => SqT K H a xs) e2 (fun _ _ e h => ex_t e h) (ex_t (e.trans e2) hx) (walk_imp walk_tup fun i H x H' y => ⟨by rw [y.1]; exact Ex.refl H, y.2⟩)⟩
/-- a tuple that a value's property tells -/
theorem src_tupP {xs : List V} (h : EvP te σ H (fun v H' => ∃ a, v = .ref a ∧ SqT K H' a xs)) : Src (iTup K te) σ H xs.length (fun i x _ => xs[i]? = some x) := fun H1 e R q =>
  h H1 e _ fun v H2 e2 ⟨a, ea, hx⟩ => ⟨a, ea, ⟨xs, hx⟩, q _ H2 (fun H => SqT K H a xs) e2 (fun _ _ e h => ex_t e h) hx (walk_imp walk_tup fun i H x H' y => ⟨by rw [y.1]; exact Ex.refl H, y.2⟩)⟩
theorem src_listP {xs : List V} (h : EvP te σ H (fun v H' => ∃ a, v = .ref a ∧ SqL K H' a xs)) : Src (iList K te) σ H xs.length (fun i x _ => xs[i]? = some x) := fun H1 e R q =>
  h H1 e _ fun v H2 e2 ⟨a, ea, hx⟩ => ⟨a, ea, ⟨xs, hx⟩, q _ H2 (fun H => SqL K H a xs) e2 (fun _ _ e h => ex_l e h) hx (walk_imp walk_list fun i H x H' y => ⟨by rw [y.1]; exact Ex.refl H, y.2⟩)⟩
theorem src_str {z : Str} (h : Ev te σ H (.str z)) : Src (iStr te) σ H z.cps.size (fun i v _ => ∃ c, z.cps[i]? = some c ∧ v = .str ⟨#[c]⟩) := fun H1 e R q =>
  h H1 e _ fun H2 e2 => ⟨z, rfl, q _ H2 (fun _ => True) e2 (fun _ _ _ h => h) trivial (walk_imp walk_str fun i H x H' y => ⟨by rw [y.1]; exact Ex.refl H, y.2⟩)⟩
theorem src_enum {ta : TA} {a : Addr} {xs : List V} (h : EvA ta σ H [.ref a]) (hx : SqL K H a xs) : Src (iEnum K ta) σ H xs.length (fun i v H' => ∃ T x, v = .ref T ∧ H' T = some (.tup [.int (i : Nat), x]) ∧ xs[i]? = some x) := fun H1 e R q =>
  h H1 e _ fun H2 e2 => ⟨a, xs, rfl, ex_l (e.trans e2) hx, q _ H2 (fun H => SqL K H a xs) e2 (fun _ _ e h => ex_l e h) (ex_l (e.trans e2) hx) (walk_imp walk_enum fun i H v H' y => by
    obtain ⟨T, x, z, h1, h2, h3, h4, h5⟩ := y
    cases h4
    subst h3
    exact ⟨Ex.new h2, T, z, h1, upd_same, h5⟩)⟩
theorem src_keys {d : Addr} {o : Obj} {kvs : List (Key × V)} (h : Ev te σ H (.ref d)) (hd : H d = some (.frz o (.dK kvs))) : Src (iKeys te) σ H kvs.length (fun i x _ => ∃ k v, kvs[i]? = some (k, v) ∧ x = kV k) := fun H1 e R q =>
  h H1 e _ fun H2 e2 => ⟨d, o, rfl, .inl ⟨kvs, e2 d _ (e d _ hd), q _ H2 (fun H => H d = some (.frz o (.dK kvs))) e2 (fun _ _ e h => e _ _ h) (e2 d _ (e d _ hd)) (walk_imp walk_keys fun i H x H' y => ⟨by rw [y.1]; exact Ex.refl H, y.2⟩)⟩⟩
theorem src_rng1 {ta : TA} {n : Int} (h : EvA ta σ H [.int n]) (hn : 0 ≤ n ∧ n ≤ 100000) : Src (iRng1 ta) σ H n.toNat (fun i x _ => x = .int (i : Nat)) := fun H1 e R q =>
  h H1 e _ fun H2 e2 => ⟨n, rfl, by omega, by omega, q _ H2 (fun _ => True) e2 (fun _ _ _ h => h) trivial (walk_imp walk_range fun i H x H' y => ⟨by rw [y.1]; exact Ex.refl H, by
    have y2 : x = V.int (0 + (i : Int)) := y.2
    rw [Int.zero_add] at y2
    exact y2⟩)⟩

/-! ### comprehensions -/
variable {wi : TI} {g : TG} {tt : TT} {tk : TE} {vs : List Nat} {β : Type}
/-- one turn's slots: the target's assignment gives τ, the comprehension's names alone are touched -/
structure Tgt (g : TG) (vs : List Nat) (σ : L2.St) (v : V) (H : Hp) (τ : L2.St) : Prop where
  as : ∀ k : L2.St → Hp → Prop, k τ H → g v (wipe σ vs) H k
  wp : wipe τ vs = wipe σ vs
/-- P stays while what stood stands, but at D -/
def OffM {β : Type} (D : Addr) (P : β → Hp → Prop) : Prop := ∀ b H H', (∀ c o, c ≠ D → H c = some o → H' c = some o) → P b H → P b H'
theorem OffM.ex {β : Type} {D : Addr} {P : β → Hp → Prop} (h : OffM D P) : Mono P := fun b _ _ e p => h b _ _ (fun c o _ q => e c o q) p
theorem OffM.up {β : Type} {D : Addr} {P : β → Hp → Prop} (h : OffM D P) {b : β} {H : Hp} {o : HO} (p : P b H) : P b (upd H D o) := h b _ _ (fun c u n q => by rw [upd_ne n]; exact q) p
theorem offm_val {D : Addr} {f : V → Prop} : OffM D (fun v (_ : Hp) => f v) := fun _ _ _ _ p => p
theorem paired_snoc {α γ : Type} {F : α → γ → Prop} {a : α} {c : γ} : ∀ {l : List α} {m : List γ}, Paired F l m → F a c → Paired F (l ++ [a]) (m ++ [c])
  | _, _, .nil, h => .cons h .nil
  | _, _, .cons r t, h => .cons r (paired_snoc t h)
theorem lcW {n : Nat} {I : Nat → V → Hp → Prop} (f : Nat → Bool) (R : Addr → Nat → V → Hp → Prop) (hR : ∀ D i, OffM D (R D i)) (hs : Src wi σ H n I) (hz : n ≤ 40000)
    (turn : ∀ i v H1 D acc, i < n → Ex H H1 → H1 D = some (.lst acc) → I i v H1 → ∃ τ, Tgt g vs σ v H1 τ ∧ EvT tt τ H1 (f i) ∧ (f i = true → EvP te τ H1 (R D i))) :
    EvLP (tLc wi g tt te vs) σ H (fun acc H' => ∃ D, Paired (fun i v => R D i v H') ((List.range n).filter f) acc) := fun H0 e Q q => hs H0 e _ fun J H1 G e1 gm g1 w Dl hD => by
  refine lc_it w (Qd := fun H => Q (.ref Dl) H) (fun i H' => ∃ acc, Ex H1 H' ∧ H' Dl = some (.lst acc) ∧ acc.length ≤ i ∧ Paired (fun i v => R Dl i v H') ((List.range i).filter f) acc) ⟨[], Ex.new hD, upd_same, Nat.zero_le _, .nil⟩ (fun i H' _ ⟨acc, e2, _⟩ => gm _ _ e2 g1) ?_ ?_
  · rintro i v H2 H3 hi ⟨acc, e2, hl, hn, hp⟩ ⟨e3, hI⟩
    have eA : Ex H H3 := (e.trans e1).trans (e2.trans e3)
    obtain ⟨τ, ⟨has, hw⟩, ht, he⟩ := turn i v H3 Dl acc hi eA (e3 _ _ hl) hI
    refine has _ ⟨hw, ht H3 (Ex.refl _) _ fun H4 e4 => ?_⟩
    have keepP : ∀ {H5 : Hp}, Ex H2 H5 → Paired (fun i v => R Dl i v H5) ((List.range i).filter f) acc := fun e5 => Paired.mapP hp fun j u r => (hR Dl j).ex u _ _ e5 r
    cases hf : f i with
    | true =>
      show te τ H4 fun y H4 => ∃ acc, H4 Dl = some (.lst acc) ∧ acc.length < sizeLine ∧ _
      refine he hf H4 e4 _ fun y H5 e5 r => ⟨acc, e5 _ _ (e4 _ _ (e3 _ _ hl)), sz_lt (by omega), acc ++ [y], Ex.mut ((e2.trans e3).trans (e4.trans e5)) hD, upd_same, by rw [List.length_append]; exact Nat.add_le_add_right hn 1, ?_⟩
      rw [List.range_succ, List.filter_append, List.filter_cons, if_pos hf, List.filter_nil]
      refine paired_snoc ?_ ((hR Dl i).up r)
      exact Paired.mapP (keepP (e3.trans (e4.trans e5))) fun j u r => (hR Dl j).up r
    | false =>
      show ∃ acc, _
      refine ⟨acc, (e2.trans e3).trans e4, e4 _ _ (e3 _ _ hl), Nat.le_succ_of_le hn, ?_⟩
      rw [List.range_succ, List.filter_append, List.filter_cons, if_neg (by rw [hf]; decide), List.filter_nil, List.append_nil]
      exact keepP (e3.trans e4)
  · rintro H2 ⟨acc, e2, hl, _, hp⟩
    refine q Dl acc H2 ?_ (e1.trans e2) hl ⟨Dl, hp⟩
    exact fresh_back e1 hD
theorem paired_map {α γ : Type} {f : α → γ} : ∀ {l : List α} {m : List γ}, Paired (fun a c => c = f a) l m → m = l.map f
  | _, _, .nil => rfl
  | _, _, .cons r t => by rw [List.map_cons, ← paired_map t, r]
/-- the items of a list, by their places, chosen and changed -/
theorem range_map {α γ : Type} (f : Nat → Bool) (h : Nat → γ) (p : α → Bool) (q : α → γ) : ∀ (ys : List α) (k : Nat), (∀ i y, ys[i]? = some y → f (k + i) = p y ∧ h (k + i) = q y) →
    ((List.range' k ys.length).filter f).map h = (ys.filter p).map q
  | [], _, _ => rfl
  | y :: ys, k, hh => by
    have h0 := hh 0 y (by simp)
    have ih := range_map f h p q ys (k + 1) fun i z hz => by
      have := hh (i + 1) z (by simpa using hz)
      rw [show k + (i + 1) = k + 1 + i by omega] at this
      exact this
    rw [List.length_cons, List.range'_succ, List.filter_cons, List.filter_cons]
    rw [Nat.add_zero] at h0
    rw [h0.1]
    split
    · rw [List.map_cons, List.map_cons, ih, h0.2]
    · exact ih
/-- .. over a list of known items ys, the chosen ones' values by val -/
theorem lcV {I : Nat → V → Hp → Prop} (ys : List β) (p : β → Bool) (val : β → V) (hs : Src wi σ H ys.length I) (hz : ys.length ≤ 40000)
    (turn : ∀ i y v H1, ys[i]? = some y → Ex H H1 → I i v H1 → ∃ τ, Tgt g vs σ v H1 τ ∧ EvT tt τ H1 (p y) ∧ (p y = true → Ev te τ H1 (val y))) :
    EvL (tLc wi g tt te vs) σ H ((ys.filter p).map val) := by
  have key := lcW (wi := wi) (g := g) (tt := tt) (te := te) (vs := vs) (σ := σ) (H := H) (I := I) (n := ys.length) (fun i => (ys[i]?.map p).getD false) (fun _ i v _ => v = (ys[i]?.map val).getD .non) (fun _ _ => offm_val) hs hz
    (fun i v H1 D acc hi e _ hI => by
      have hy : ys[i]? = some ys[i] := List.getElem?_eq_getElem hi
      obtain ⟨τ, h1, h2, h3⟩ := turn i _ v H1 hy e hI
      simp only [hy, Option.map_some, Option.getD_some]
      exact ⟨τ, h1, h2, fun hp => ep_of (h3 hp)⟩)
  intro H1 e Q q
  refine key H1 e Q fun p' acc H2 hn e2 hl ⟨D, hp⟩ => q p' H2 hn e2 ?_
  rw [hl, paired_map hp]
  have := range_map (fun i => (ys[i]?.map p).getD false) (fun i => (ys[i]?.map val).getD V.non) p val ys 0 (fun i y hy => by simp [hy])
  rw [← List.range_eq_range'] at this
  rw [this]
/-- .. no test, the values by a relation -/
theorem lcR {I : Nat → V → Hp → Prop} (ys : List β) (R : Addr → β → V → Hp → Prop) (hR : ∀ D y, OffM D (R D y)) (hs : Src wi σ H ys.length I) (hz : ys.length ≤ 40000)
    (turn : ∀ i y v H1 D acc, ys[i]? = some y → Ex H H1 → H1 D = some (.lst acc) → I i v H1 → ∃ τ, Tgt g vs σ v H1 τ ∧ EvP te τ H1 (R D y)) :
    EvLP (tLc wi g tYes te vs) σ H (fun acc H' => ∃ D, Paired (fun y v => R D y v H') ys acc) := by
  have key := lcW (wi := wi) (g := g) (tt := tYes) (te := te) (vs := vs) (σ := σ) (H := H) (I := I) (n := ys.length) (fun _ => true) (fun D i v H => ∃ y, ys[i]? = some y ∧ R D y v H) (fun D i b H H' e ⟨y, hy, r⟩ => ⟨y, hy, hR D y b H H' e r⟩) hs hz
    (fun i v H1 D acc hi e hD hI => by
      have hy : ys[i]? = some ys[i] := List.getElem?_eq_getElem hi
      obtain ⟨τ, h1, h3⟩ := turn i _ v H1 D acc hy e hD hI
      refine ⟨τ, h1, fun H2 e2 Q q => q H2 (Ex.refl _), fun _ => h3.imp fun v H' _ r => ⟨_, hy, r⟩⟩)
  intro H1 e Q q
  refine key H1 e Q fun p' acc H2 hn e2 hl ⟨D, hp⟩ => q p' acc H2 hn e2 hl ⟨D, ?_⟩
  have ef : (List.range ys.length).filter (fun _ => true) = List.range' 0 ys.length := by rw [List.filter_eq_self.mpr (fun _ _ => rfl), List.range_eq_range']
  rw [ef] at hp
  have : ∀ (zs : List β) (k : Nat) (acc : List V), (∀ i z, zs[i]? = some z → ys[k + i]? = some z) → Paired (fun i v => ∃ y, ys[i]? = some y ∧ R D y v H2) (List.range' k zs.length) acc → Paired (fun y v => R D y v H2) zs acc := by
    intro zs
    induction zs with
    | nil => intro k acc _ h; cases h; exact .nil
    | cons z zs ih =>
      intro k acc hz h
      rw [List.length_cons, List.range'_succ] at h
      cases h with
      | cons r t =>
        obtain ⟨y, hy, r⟩ := r
        have h0 := hz 0 z (by simp)
        rw [Nat.add_zero, hy] at h0
        cases h0
        exact .cons r (ih (k + 1) _ (fun i w hw => by
          have := hz (i + 1) w (by simpa using hw)
          rw [show k + (i + 1) = k + 1 + i by omega] at this
          exact this) t)
  exact this ys 0 acc (fun i z hz => by simpa using hz) hp
/-! ### dict comprehensions: keys are texts, no two alike -/
theorem putK_end {κ : Type} [DecidableEq κ] {kvs : List (κ × V)} {k : κ} {v : V} (h : k ∉ kvs.map (·.1)) : putK kvs k v = kvs ++ [(k, v)] := by
  refine putK_new v ?_
  unfold valV
  rw [List.find?_eq_none.mpr (fun x hx => by
    simp only [decide_eq_true_eq]
    intro e
    exact h (List.mem_map.mpr ⟨x, hx, e⟩))]
  rfl
/-- a dict's entries: the keys ws in this order, each value as P says -/
def DOf (H : Hp) (kvs : List (Key × V)) (ws : List Str) (P : Str → V → Hp → Prop) : Prop := kvs.map (·.1) = ws.map Sum.inr ∧ ∀ w v, ((Sum.inr w : Key), v) ∈ kvs → P w v H
theorem DOf.mono {H H' : Hp} {kvs : List (Key × V)} {ws : List Str} {P : Str → V → Hp → Prop} (h : DOf H kvs ws P) (hp : ∀ w v, P w v H → P w v H') : DOf H' kvs ws P := ⟨h.1, fun w v m => hp w v (h.2 w v m)⟩
theorem valV_mem {κ : Type} [DecidableEq κ] : ∀ {kvs : List (κ × V)} {k : κ}, k ∈ kvs.map (·.1) → ∃ v, valV kvs k = some v ∧ (k, v) ∈ kvs
  | [], _, h => absurd h (by simp)
  | (a, b) :: r, k, h => by
    unfold valV
    rw [List.find?_cons]
    by_cases e : a = k
    · subst e
      simp
    · simp only [decide_eq_false e]
      have hk : k ∈ r.map (·.1) := by
        rcases List.mem_cons.mp h with z | z
        · exact absurd z.symm e
        · exact z
      obtain ⟨v, h1, h2⟩ := valV_mem hk
      exact ⟨v, h1, List.mem_cons_of_mem _ h2⟩
theorem valV_out {κ : Type} [DecidableEq κ] {kvs : List (κ × V)} {k : κ} (h : k ∉ kvs.map (·.1)) : valV kvs k = none := by
  unfold valV
  rw [List.find?_eq_none.mpr (fun x hx => by
    simp only [decide_eq_true_eq]
    intro e
    exact h (List.mem_map.mpr ⟨x, hx, e⟩))]
  rfl
theorem DOf.get {H : Hp} {kvs : List (Key × V)} {ws : List Str} {P : Str → V → Hp → Prop} (h : DOf H kvs ws P) {w : Str} (hw : w ∈ ws) : ∃ v, valV kvs (Sum.inr w : Key) = some v ∧ P w v H := by
  obtain ⟨v, h1, h2⟩ := valV_mem (kvs := kvs) (k := (Sum.inr w : Key)) (by rw [h.1]; exact List.mem_map.mpr ⟨w, hw, rfl⟩)
  exact ⟨v, h1, h.2 w v h2⟩
theorem DOf.has {H : Hp} {kvs : List (Key × V)} {ws : List Str} {P : Str → V → Hp → Prop} (h : DOf H kvs ws P) (w : Str) : (valV kvs (Sum.inr w : Key)).isSome = decide (w ∈ ws) := by
  by_cases hw : w ∈ ws
  · obtain ⟨v, e, _⟩ := h.get hw
    rw [e, decide_eq_true hw]
    rfl
  · rw [decide_eq_false hw, valV_out]
    · rfl
    · rw [h.1]
      intro z
      obtain ⟨u, hu, e⟩ := List.mem_map.mp z
      cases e
      exact hw hu
/-- {key: value for ..}: the items are told by ys; their keys are no two alike -/
theorem dcW {I : Nat → V → Hp → Prop} (ys : List β) (key : β → Str) (hk : (ys.map key).Nodup) (R : Addr → Str → V → Hp → Prop) (hR : ∀ D w, OffM D (R D w)) (hs : Src wi σ H ys.length I) (hz : ys.length ≤ 40000)
    (turn : ∀ i y v H1 D kvs, ys[i]? = some y → Ex H H1 → H1 D = some (.dK kvs) → I i v H1 → ∃ τ, Tgt g vs σ v H1 τ ∧ Ev tk τ H1 (.str (key y)) ∧ EvP te τ H1 (R D (key y))) :
    EvDP (tDc wi g tYes tk te vs) σ H (fun kvs H' => ∃ D, DOf H' kvs (ys.map key) (R D)) := fun H0 e Q q => hs H0 e _ fun J H1 G e1 gm g1 w Dl hD => by
  refine ⟨fun i m H' => m = ys.length - i ∧ i ≤ ys.length ∧ Ex H1 H' ∧ ∃ kvs, H' Dl = some (.dK kvs) ∧ kvs.length = i ∧ DOf H' kvs ((ys.take i).map key) (R Dl), ⟨ys.length, by simp, Nat.zero_le _, Ex.new hD, [], upd_same, rfl, ⟨by simp, fun w v h => absurd h (by simp)⟩⟩, ?_⟩
  rintro i m H2 ⟨rfl, hi, e2, kvs, hl, hn, hd⟩
  have q2 := gm _ _ e2 g1
  by_cases hlt : i < ys.length
  · refine .inr ⟨w.goes i H2 hlt q2, fun H' => i + 1 ≤ ys.length ∧ Ex H1 H' ∧ ∃ kvs, H' Dl = some (.dK kvs) ∧ kvs.length = i + 1 ∧ DOf H' kvs ((ys.take (i + 1)).map key) (R Dl), fun H' p' => ⟨ys.length - (i + 1), by omega, rfl, p'⟩, fun x H3 y => ?_⟩
    obtain ⟨e3, hI⟩ := w.yields i H2 x H3 hlt q2 y
    have hy : ys[i]? = some ys[i] := List.getElem?_eq_getElem hlt
    have eA : Ex H H3 := (e.trans e1).trans (e2.trans e3)
    obtain ⟨τ, ⟨has, hw⟩, hkE, he⟩ := turn i _ x H3 Dl kvs hy eA (e3 _ _ hl) hI
    refine has _ ⟨hw, ?_⟩
    show tk τ H3 fun y H4 => te τ H4 fun z H5 => _
    refine hkE H3 (Ex.refl _) _ fun H4 e4 => ?_
    refine he H4 e4 _ fun z H5 e5 r => ⟨kvs, (Sum.inr (key ys[i]) : Key), rfl, e5 _ _ (e4 _ _ (e3 _ _ hl)), sz_lt (by omega), hlt, Ex.mut ((e2.trans e3).trans (e4.trans e5)) hD, _, upd_same, ?_, ?_⟩
    all_goals
      have htk : (ys.take (i + 1)).map key = (ys.take i).map key ++ [key ys[i]] := by
        rw [List.take_succ_eq_append_getElem hlt, List.map_append]
        rfl
      have hnd : key ys[i] ∉ (ys.take i).map key := by
        have h1 : ((ys.take (i + 1)).map key).Nodup := by
          rw [List.map_take]
          exact List.Nodup.sublist (List.take_sublist _ _) hk
        rw [htk, List.nodup_append] at h1
        intro z
        exact h1.2.2 _ z _ (List.mem_singleton.mpr rfl) rfl
      have hout : (Sum.inr (key ys[i]) : Key) ∉ kvs.map (·.1) := by
        rw [hd.1]
        intro z
        obtain ⟨u, hu, e⟩ := List.mem_map.mp z
        cases e
        exact hnd hu
      rw [putK_end hout]
    · rw [List.length_append, hn]
      rfl
    · rw [htk]
      refine ⟨by rw [List.map_append, hd.1, List.map_append]; rfl, fun w v hm => ?_⟩
      rcases List.mem_append.mp hm with hm | hm
      · exact (hR Dl w).up ((hR Dl w).ex v _ _ (e3.trans (e4.trans e5)) (hd.2 w v hm))
      · have : ((Sum.inr w : Key), v) = (Sum.inr (key ys[i]), z) := by simpa using hm
        cases this
        exact (hR Dl _).up r
  · have ei : i = ys.length := by omega
    subst ei
    refine .inl ⟨w.stops H2 q2, q Dl kvs H2 (fresh_back e1 hD) (e1.trans e2) hl ⟨Dl, ?_⟩⟩
    rw [List.take_length] at hd
    exact hd
/-! ### targets -/
theorem tgt_name {j : Nat} {v : V} (hw : wipe ((wipe σ vs).set j (some v)) vs = wipe σ vs) : Tgt (gName j) vs σ v H ((wipe σ vs).set j (some v)) := ⟨fun _ h => h, hw⟩
theorem tgt_pair {i j : Nat} {T : Addr} {x y : V} (hT : SqT K H T [x, y]) (hw : wipe (((wipe σ vs).set i (some x)).set j (some y)) vs = wipe σ vs) :
    Tgt (gTup K 2 (gCons (gName i) (gCons (gName j) gNil))) vs σ (.ref T) H (((wipe σ vs).set i (some x)).set j (some y)) :=
  ⟨fun _ h => ⟨T, [x, y], rfl, hT, rfl, x, [y], rfl, y, [], rfl, rfl, h⟩, hw⟩
theorem tgt_triple {i j k : Nat} {T : Addr} {x y z : V} (hT : SqT K H T [x, y, z]) (hw : wipe ((((wipe σ vs).set i (some x)).set j (some y)).set k (some z)) vs = wipe σ vs) :
    Tgt (gTup K 3 (gCons (gName i) (gCons (gName j) (gCons (gName k) gNil)))) vs σ (.ref T) H ((((wipe σ vs).set i (some x)).set j (some y)).set k (some z)) :=
  ⟨fun _ h => ⟨T, [x, y, z], rfl, hT, rfl, x, [y, z], rfl, y, [z], rfl, z, [], rfl, rfl, h⟩, hw⟩
theorem et_yes : EvT tYes σ H true := fun H1 _ Q q => q H1 (Ex.refl H1)
/-- tuple(new list) -/
def rTupOf (K : PySem.W.Frag) : List V → Hp → VK → Prop := fun xs H Q => ∃ p ys, xs = [.ref p] ∧ ((SqL K H p ys ∧ ∀ l, H l = none → Q (.ref l) (upd H l (.tup ys))) ∨ (SqT K H p ys ∧ Q (.ref p) H))
end
end Wk

/-! More readings: built-ins, comparisons, statements by properties. -/
namespace Wk
open PySem L2 Evl
section
variable {K : PySem.W.Frag} {σ : L2.St} {H H' : Hp} {ta tb tc te tx : TE} {x y z v : V} {P P' : V → Hp → Prop}
/-- membership among texts -/
theorem inV_str {x : Str} {ss : List Str} : inV (.str x) (ss.map V.str) = decide (x ∈ ss) := by
  unfold inV
  rw [List.any_map, Bool.eq_iff_iff]
  simp only [List.any_eq_true, Function.comp, eqV, beq_iff_eq, decide_eq_true_eq]
  constructor
  · rintro ⟨s, hs, e⟩
    subst e
    exact hs
  · intro h
    exact ⟨x, h, rfl⟩
theorem flat_strs {ss : List Str} : (ss.map V.str).all flatV = true := by
  rw [List.all_map]
  exact List.all_eq_true.mpr fun _ _ => rfl
theorem ev_inT {p : Addr} {s : Str} {ss : List Str} {b : Bool} (ha : Ev ta σ H (.str s)) (hb : Ev tb σ H (.ref p)) (h : SqT K H p (ss.map V.str)) (e : decide (s ∈ ss) = b) : Ev (tOp (rIn K false) ta tb) σ H (.bl b) := by
  have := ev_op ha hb (rv_isT h rfl flat_strs)
  rw [inV_str, e] at this
  exact this
theorem ev_notInT {p : Addr} {s : Str} {ss : List Str} {b : Bool} (ha : Ev ta σ H (.str s)) (hb : Ev tb σ H (.ref p)) (h : SqT K H p (ss.map V.str)) (e : (!decide (s ∈ ss)) = b) : Ev (tOp (rIn K true) ta tb) σ H (.bl b) := by
  have := ev_op ha hb (rv_niT h rfl flat_strs)
  rw [inV_str, e] at this
  exact this
theorem ev_inL {p : Addr} {s : Str} {ss : List Str} {b : Bool} (ha : Ev ta σ H (.str s)) (hb : Ev tb σ H (.ref p)) (h : SqL K H p (ss.map V.str)) (e : decide (s ∈ ss) = b) : Ev (tOp (rIn K false) ta tb) σ H (.bl b) := by
  have := ev_op ha hb (rv_isL h rfl flat_strs)
  rw [inV_str, e] at this
  exact this
theorem ev_notInL {p : Addr} {s : Str} {ss : List Str} {b : Bool} (ha : Ev ta σ H (.str s)) (hb : Ev tb σ H (.ref p)) (h : SqL K H p (ss.map V.str)) (e : (!decide (s ∈ ss)) = b) : Ev (tOp (rIn K true) ta tb) σ H (.bl b) := by
  have := ev_op ha hb (rv_niL h rfl flat_strs)
  rw [inV_str, e] at this
  exact this
/-- the container told by a property -/
theorem ev_inTP {s : Str} {ss : List Str} {b : Bool} (ha : Ev ta σ H (.str s)) (hb : EvP tb σ H (fun v H' => ∃ p, v = .ref p ∧ SqT K H' p (ss.map V.str))) (e : decide (s ∈ ss) = b) : Ev (tOp (rIn K false) ta tb) σ H (.bl b) := fun H1 e1 Q q =>
  ha H1 e1 _ fun H2 e2 => hb H2 (e1.trans e2) _ fun v H3 e3 ⟨p, ev, hp⟩ => by
    subst ev
    refine ⟨p, _, rfl, Or.inr hp, rfl, flat_strs, ?_⟩
    have e4 : (if false = true then !inV (V.str s) (ss.map V.str) else inV (V.str s) (ss.map V.str)) = b := by rw [if_neg (by decide), inV_str, e]
    rw [e4]
    exact q H3 (e2.trans e3)
theorem ev_inLP {s : Str} {ss : List Str} {b : Bool} (ha : Ev ta σ H (.str s)) (hb : EvP tb σ H (fun v H' => ∃ p, v = .ref p ∧ SqL K H' p (ss.map V.str))) (e : decide (s ∈ ss) = b) : Ev (tOp (rIn K false) ta tb) σ H (.bl b) := fun H1 e1 Q q =>
  ha H1 e1 _ fun H2 e2 => hb H2 (e1.trans e2) _ fun v H3 e3 ⟨p, ev, hp⟩ => by
    subst ev
    refine ⟨p, _, rfl, Or.inl hp, rfl, flat_strs, ?_⟩
    have e4 : (if false = true then !inV (V.str s) (ss.map V.str) else inV (V.str s) (ss.map V.str)) = b := by rw [if_neg (by decide), inV_str, e]
    rw [e4]
    exact q H3 (e2.trans e3)
theorem ev_eqS {s t : Str} {b : Bool} (ha : Ev ta σ H (.str s)) (hb : Ev tb σ H (.str t)) (e : decide (s = t) = b) : Ev (tOp rEq ta tb) σ H (.bl b) := by
  have := ev_op ha hb (rv_eq (H := H) (show scal (.str s) (.str t) = true from rfl))
  have e2 : decide (V.str s = V.str t) = b := by rw [← e, decide_eq_decide]; exact ⟨fun h => V.str.inj h, fun h => by rw [h]⟩
  rw [e2] at this
  exact this
theorem ev_neS {s t : Str} {b : Bool} (ha : Ev ta σ H (.str s)) (hb : Ev tb σ H (.str t)) (e : (!decide (s = t)) = b) : Ev (tOp rNe ta tb) σ H (.bl b) := by
  have := ev_op ha hb (rv_ne (H := H) (show scal (.str s) (.str t) = true from rfl))
  have e2 : decide (V.str s = V.str t) = decide (s = t) := by rw [decide_eq_decide]; exact ⟨fun h => V.str.inj h, fun h => by rw [h]⟩
  rw [e2, e] at this
  exact this
theorem ev_eqI {s t : Int} {b : Bool} (ha : Ev ta σ H (.int s)) (hb : Ev tb σ H (.int t)) (e : decide (s = t) = b) : Ev (tOp rEq ta tb) σ H (.bl b) := by
  have := ev_op ha hb (rv_eq (H := H) (show scal (.int s) (.int t) = true from rfl))
  have e2 : decide (V.int s = V.int t) = b := by rw [← e, decide_eq_decide]; exact ⟨fun h => V.int.inj h, fun h => by rw [h]⟩
  rw [e2] at this
  exact this
theorem ev_neI {s t : Int} {b : Bool} (ha : Ev ta σ H (.int s)) (hb : Ev tb σ H (.int t)) (e : (!decide (s = t)) = b) : Ev (tOp rNe ta tb) σ H (.bl b) := by
  have := ev_op ha hb (rv_ne (H := H) (show scal (.int s) (.int t) = true from rfl))
  have e2 : decide (V.int s = V.int t) = decide (s = t) := by rw [decide_eq_decide]; exact ⟨fun h => V.int.inj h, fun h => by rw [h]⟩
  rw [e2, e] at this
  exact this
theorem ev_cmpI {f : Int → Int → Bool} {i j : Int} {b : Bool} (ha : Ev ta σ H (.int i)) (hb : Ev tb σ H (.int j)) (e : f i j = b) : Ev (tOp (rI0 fun i j => .bl (f i j)) ta tb) σ H (.bl b) := by
  have := ev_op ha hb (rv_I0 (H := H) (g := fun i j => V.bl (f i j)) (i := i) (j := j))
  rw [e] at this
  exact this
/-- i op j op k -/
theorem ev_chainI {f g : Int → Int → Bool} {i j k : Int} (ha : Ev ta σ H (.int i)) (hb : Ev tb σ H (.int j)) (hc : Ev tc σ H (.int k)) {b : Bool} (e : (f i j && g j k) = b) : Ev (tChain (rI0 fun i j => .bl (f i j)) (rI0 fun i j => .bl (g i j)) ta tb tc) σ H (.bl b) := fun H1 e1 Q q =>
  ha H1 e1 _ fun H2 e2 => hb H2 (e1.trans e2) _ fun H3 e3 => ⟨i, j, rfl, rfl, f i j, rfl, by
    cases hf : f i j with
    | true =>
      rw [hf, Bool.true_and] at e
      rw [if_pos rfl]
      refine hc H3 ((e1.trans e2).trans e3) _ fun H4 e4 => ⟨j, k, rfl, rfl, ?_⟩
      show Q (.bl (g j k)) H4
      rw [e]
      exact q H4 ((e2.trans e3).trans e4)
    | false =>
      rw [hf, Bool.false_and] at e
      rw [if_neg (by decide), e]
      exact q H3 (e2.trans e3)⟩
theorem ev_isi {n : String} {ty : Value} {b : Bool} {ta : TA} (h : EvA ta σ H [x, .ty n]) (ht : ∀ H1, Ex H H1 → TyX K H1 x ty) (hk : PySem.W.kitOne K ty (.type n) = some b) : Ev (tCB (rIsi K) ta) σ H (.bl b) := fun H1 e Q q =>
  h H1 e _ fun H2 e2 => ⟨x, .ty n, ty, .type n, b, rfl, .ty n, ht H2 (e.trans e2), hk, q H2 e2⟩
theorem ev_lenStr {z : Str} {ta : TA} (h : EvA ta σ H [.str z]) (hz : z.length ≤ 100000) : Ev (tCB (fun xs H Q => ∃ z : Str, xs = [.str z] ∧ z.length ≤ sizeLine ∧ Q (.int z.length) H) ta) σ H (.int z.length) := fun H1 e Q q =>
  h H1 e _ fun H2 e2 => ⟨z, rfl, sz_of hz, q H2 e2⟩
theorem ev_lenD {d : Addr} {kvs : List (Key × V)} {ta : TA} (h : EvA ta σ H [.ref d]) (hd : H d = some (.dK kvs)) : Ev (tCB (fun xs H Q => ∃ a kvs, xs = [V.ref a] ∧ H a = some (.dK kvs) ∧ Q (.int kvs.length) H) ta) σ H (.int kvs.length) := fun H1 e Q q =>
  h H1 e _ fun H2 e2 => ⟨d, kvs, rfl, e2 d _ (e d _ hd), q H2 e2⟩
theorem ev_lenSq {p : Addr} {ys : List V} {ta : TA} (h : EvA ta σ H [.ref p]) (hp : SqL K H p ys ∨ SqT K H p ys) : Ev (tCB (rLenS K) ta) σ H (.int ys.length) := fun H1 e Q q =>
  h H1 e _ fun H2 e2 => ⟨p, ys, rfl, hp.imp (ex_l (e.trans e2)) (ex_t (e.trans e2)), q H2 e2⟩
/-- len of what a value's property tells -/
theorem ev_lenP {n : Nat} (h : EvP te σ H (fun v H' => ∃ p ys, v = .ref p ∧ (SqL K H' p ys ∨ SqT K H' p ys) ∧ ys.length = n)) : Ev (tCB (rLenS K) (tCons te tNil)) σ H (.int n) := fun H1 e Q q =>
  h H1 e _ fun v H2 e2 ⟨p, ys, ev, hp, hn⟩ => ⟨p, ys, by rw [ev], hp, by rw [hn]; exact q H2 e2⟩
theorem ev_inSign {c : Nat} {z : Str} {b : Bool} (ha : Ev ta σ H (.str ⟨#[c]⟩)) (hb : Ev tb σ H (.str z)) (e : decide (c ∈ z.cps.toList) = b) : Ev (tOp (fun x y H Q => ∃ (c : Nat) (z : Str), x = .str ⟨#[c]⟩ ∧ y = .str z ∧ Q (.bl (decide (c ∈ z.cps.toList))) H) ta tb) σ H (.bl b) := fun H1 e1 Q q =>
  ha H1 e1 _ fun H2 e2 => hb H2 (e1.trans e2) _ fun H3 e3 => ⟨c, z, rfl, rfl, by rw [e]; exact q H3 (e2.trans e3)⟩
/-- tuple(new list) -/
theorem eu_tupOf {xs : List V} (h : EvL te σ H xs) : EvU (tCB (rTupOf K) (tCons te tNil)) σ H xs := fun H1 e Q q =>
  h H1 e _ fun p H2 _ e2 hp => ⟨p, xs, rfl, .inl ⟨sq_of hp, fun l hl => q l _ (fresh_back e2 hl) (e2.trans (Ex.new hl)) upd_same⟩⟩
theorem eu_tupOfP {P : List V → Prop} {Q0 : List V → Hp → Prop} (h : EvLP te σ H Q0) : ∀ H1, Ex H H1 → ∀ Q : VK, (∀ l acc H2 H3, H1 l = none → Ex H1 H2 → H2 l = none → H3 = upd H2 l (.tup acc) → Q0 acc H2 → Q (.ref l) H3) → tCB (rTupOf K) (tCons te tNil) σ H1 Q := fun H1 e Q q =>
  h H1 e _ fun p acc H2 _ e2 hp hq => ⟨p, acc, rfl, .inl ⟨sq_of hp, fun l hl => q l acc H2 _ (fresh_back e2 hl) e2 hl rfl hq⟩⟩
/-- tuple(list that stands) -/
theorem eu_tupL {p : Addr} {xs : List V} (h : Ev te σ H (.ref p)) (hp : SqL K H p xs) : EvU (tCB (rTupOf K) (tCons te tNil)) σ H xs := fun H1 e Q q =>
  h H1 e _ fun H2 e2 => ⟨p, xs, rfl, .inl ⟨ex_l (e.trans e2) hp, fun l hl => q l _ (fresh_back e2 hl) (e2.trans (Ex.new hl)) upd_same⟩⟩
theorem el_listT {p : Addr} {xs : List V} (h : Ev te σ H (.ref p)) (hp : SqT K H p xs) : EvL (tCB (rListS K) (tCons te tNil)) σ H xs := fun H1 e Q q =>
  h H1 e _ fun H2 e2 => ⟨p, xs, rfl, Or.inr (ex_t (e.trans e2) hp), fun l hl => q l _ (fresh_back e2 hl) (e2.trans (Ex.new hl)) upd_same⟩
/-- an item -/
theorem ev_ixL {p : Addr} {xs : List V} {i : Int} (ha : Ev ta σ H (.ref p)) (hb : Ev tb σ H (.int i)) (h : SqL K H p xs) (hi : atI xs i = some v) : Ev (tOp (rIxL K) ta tb) σ H v := ev_op ha hb (rv_ixL h hi)
theorem ev_ixT {p : Addr} {xs : List V} {i : Int} (ha : Ev ta σ H (.ref p)) (hb : Ev tb σ H (.int i)) (h : SqT K H p xs) (hi : atI xs i = some v) : Ev (tOp (rIxT K) ta tb) σ H v := ev_op ha hb (rv_ixT h hi)
theorem ev_ixTP {xs : List V} {i : Int} (ha : EvP ta σ H (fun v H' => ∃ p, v = .ref p ∧ SqT K H' p xs)) (hb : Ev tb σ H (.int i)) (hi : atI xs i = some v) : Ev (tOp (rIxT K) ta tb) σ H v := fun H1 e Q q =>
  ha H1 e _ fun u H2 e2 ⟨p, eu, hp⟩ => hb H2 (e.trans e2) _ fun H3 e3 => ⟨p, xs, i, v, eu, rfl, ex_t e3 hp, hi, q H3 (e2.trans e3)⟩
theorem ev_ixLP {xs : List V} {i : Int} (ha : EvP ta σ H (fun v H' => ∃ p, v = .ref p ∧ SqL K H' p xs)) (hb : Ev tb σ H (.int i)) (hi : atI xs i = some v) : Ev (tOp (rIxL K) ta tb) σ H v := fun H1 e Q q =>
  ha H1 e _ fun u H2 e2 ⟨p, eu, hp⟩ => hb H2 (e.trans e2) _ fun H3 e3 => ⟨p, xs, i, v, eu, rfl, ex_l e3 hp, hi, q H3 (e2.trans e3)⟩
theorem at_nat {xs : List V} {n : Nat} (h : xs[n]? = some v) : atI xs (n : Int) = some v := by
  have hn : n < xs.length := (List.getElem?_eq_some_iff.mp h).1
  unfold atI ixN
  rw [if_pos (by omega), if_pos (by omega)]
  simpa using h
theorem at_last {xs : List V} {y : V} : atI (xs ++ [y]) (-1) = some y := by
  unfold atI ixN
  rw [if_neg (by omega), if_pos (by simp; omega)]
  simp only [Option.bind_some]
  rw [show ((-1 : Int) + ((xs ++ [y]).length : Nat)).toNat = xs.length by simp; omega]
  simp
/-! ### comprehensions without a test -/
section
variable {wi : TI} {g : TG} {vs : List Nat} {β : Type}
theorem lcM {I : Nat → V → Hp → Prop} (ys : List β) (val : β → V) (hs : Src wi σ H ys.length I) (hz : ys.length ≤ 40000)
    (turn : ∀ i y v H1, ys[i]? = some y → Ex H H1 → I i v H1 → ∃ τ, Tgt g vs σ v H1 τ ∧ Ev te τ H1 (val y)) : EvL (tLc wi g tYes te vs) σ H (ys.map val) := by
  have := lcV (wi := wi) (g := g) (tt := tYes) (te := te) (vs := vs) (σ := σ) (H := H) (I := I) ys (fun _ => true) val hs hz (fun i y v H1 hy e hI => by
    obtain ⟨τ, h1, h2⟩ := turn i y v H1 hy e hI
    exact ⟨τ, h1, et_yes, fun _ => h2⟩)
  rw [List.filter_eq_self.mpr (fun _ _ => rfl)] at this
  exact this
theorem ev_allc {I : Nat → V → Hp → Prop} {b : Bool} (ys : List β) (p : β → Bool) (hs : Src wi σ H ys.length I) (hz : ys.length ≤ 40000)
    (turn : ∀ i y v H1, ys[i]? = some y → Ex H H1 → I i v H1 → ∃ τ, Tgt g vs σ v H1 τ ∧ Ev te τ H1 (.bl (p y))) (e : ys.all p = b) : Ev (tCB (rAll K) (tCons (tLc wi g tYes te vs) tNil)) σ H (.bl b) := by
  have h := lcM (wi := wi) (g := g) (te := te) (vs := vs) (σ := σ) (H := H) (I := I) ys (fun y => V.bl (p y)) hs hz turn
  rw [show (ys.map fun y => V.bl (p y)) = (ys.map p).map V.bl by rw [List.map_map]; rfl] at h
  have := ev_all (K := K) h
  rw [List.all_map, show (id ∘ p) = p from rfl, e] at this
  exact this
theorem ev_anyc {I : Nat → V → Hp → Prop} {b : Bool} (ys : List β) (p : β → Bool) (hs : Src wi σ H ys.length I) (hz : ys.length ≤ 40000)
    (turn : ∀ i y v H1, ys[i]? = some y → Ex H H1 → I i v H1 → ∃ τ, Tgt g vs σ v H1 τ ∧ Ev te τ H1 (.bl (p y))) (e : ys.any p = b) : Ev (tCB (rAny K) (tCons (tLc wi g tYes te vs) tNil)) σ H (.bl b) := by
  have h := lcM (wi := wi) (g := g) (te := te) (vs := vs) (σ := σ) (H := H) (I := I) ys (fun y => V.bl (p y)) hs hz turn
  rw [show (ys.map fun y => V.bl (p y)) = (ys.map p).map V.bl by rw [List.map_map]; rfl] at h
  have := ev_any (K := K) h
  rw [List.any_map, show (id ∘ p) = p from rfl, e] at this
  exact this
/-- the item of a list of texts -/
theorem item_str {ss : List Str} {i : Nat} {v : V} {s : Str} (h : (ss.map V.str)[i]? = some v) (hs : ss[i]? = some s) : v = .str s := by
  rw [List.getElem?_map, hs] at h
  exact (Option.some.inj h).symm
theorem src_len {wi : TI} {n m : Nat} {I : Nat → V → Hp → Prop} (h : Src wi σ H n I) (e : n = m) : Src wi σ H m I := e ▸ h
end
/-! ### statements, values by properties -/
variable {D : Ends} {tu tw tz : TS} {g : TG} {i : Nat} {tt : TT}
theorem q_asgP (h : EvP te σ H P) (k : ∀ v H1, Ex H H1 → P v H1 → tz D (σ.set i (some v)) H1) : tSeq (tAsg te (gName i)) tz D σ H := h H (Ex.refl H) _ fun v H1 e p => k v H1 e p
theorem s_asgP (h : EvP te σ H P) (k : ∀ v H1, Ex H H1 → P v H1 → D.nx (σ.set i (some v)) H1) : tAsg te (gName i) D σ H := h H (Ex.refl H) _ fun v H1 e p => k v H1 e p
theorem s_retP (h : EvP te σ H P) (k : ∀ v H1, Ex H H1 → P v H1 → D.rt v H1) : tRet te D σ H := h H (Ex.refl H) _ fun v H1 e p => k v H1 e p
theorem q_dropP (h : EvP te σ H P) (k : ∀ v H1, Ex H H1 → P v H1 → tz D σ H1) : tSeq (tDrop te) tz D σ H := h H (Ex.refl H) _ fun v H1 e p => k v H1 e p
theorem s_dropP (h : EvP te σ H P) (k : ∀ v H1, Ex H H1 → P v H1 → D.nx σ H1) : tDrop te D σ H := h H (Ex.refl H) _ fun v H1 e p => k v H1 e p
/-- for i, x in enumerate(list that stands) -/
theorem s_forE {ta : TA} {a : Addr} {xs : List V} (h : EvA ta σ H [.ref a]) (hx : SqL K H a xs) (Pv : Nat → L2.St → Hp → Prop) (h0 : ∀ H1, Ex H H1 → Pv 0 σ H1) (hl : ∀ i σ' H', i ≤ xs.length → Pv i σ' H' → SqL K H' a xs)
    (hs : ∀ i x σ' H' T, xs[i]? = some x → Pv i σ' H' → H' T = none → g (.ref T) σ' (upd H' T (.tup [.int (i : Nat), x])) fun σ2 H3 => tu { D with nx := Pv (i + 1), ct := Pv (i + 1), bk := D.nx } σ2 H3) (hd : ∀ σ' H', Pv xs.length σ' H' → D.nx σ' H') : tFor (iEnum K ta) g tu D σ H :=
  h H (Ex.refl H) _ fun H1 e1 => ⟨a, xs, rfl, ex_l e1 hx, for_it (walk_enum (xs := xs)) Pv (h0 H1 e1) hl (fun i x σ' H' H2 hi p y => by
    obtain ⟨T, z, w, rfl, h2, rfl, h4, h5⟩ := y
    cases h4
    exact hs i w σ' H' T h5 p h2) hd⟩
theorem q_forE {ta : TA} {a : Addr} {xs : List V} (h : EvA ta σ H [.ref a]) (hx : SqL K H a xs) (Pv : Nat → L2.St → Hp → Prop) (h0 : ∀ H1, Ex H H1 → Pv 0 σ H1) (hl : ∀ i σ' H', i ≤ xs.length → Pv i σ' H' → SqL K H' a xs)
    (hs : ∀ i x σ' H' T, xs[i]? = some x → Pv i σ' H' → H' T = none → g (.ref T) σ' (upd H' T (.tup [.int (i : Nat), x])) fun σ2 H3 => tu { D with nx := Pv (i + 1), ct := Pv (i + 1), bk := tz D } σ2 H3) (hd : ∀ σ' H', Pv xs.length σ' H' → tz D σ' H') : tSeq (tFor (iEnum K ta) g tu) tz D σ H :=
  s_forE (D := { D with nx := tz D }) h hx Pv h0 hl hs hd
/-- .. of a new list -/
theorem q_forEN {xs : List V} (h : EvL te σ H xs) (Pv : Addr → Nat → L2.St → Hp → Prop) (h0 : ∀ p H1, H p = none → Ex H H1 → H1 p = some (.lst xs) → Pv p 0 σ H1) (hl : ∀ p i σ' H', i ≤ xs.length → Pv p i σ' H' → SqL K H' p xs)
    (hs : ∀ p i x σ' H' T, xs[i]? = some x → Pv p i σ' H' → H' T = none → g (.ref T) σ' (upd H' T (.tup [.int (i : Nat), x])) fun σ2 H3 => tu { D with nx := Pv p (i + 1), ct := Pv p (i + 1), bk := tz D } σ2 H3) (hd : ∀ p σ' H', Pv p xs.length σ' H' → tz D σ' H') : tSeq (tFor (iEnum K (tCons te tNil)) g tu) tz D σ H :=
  h H (Ex.refl H) _ fun a H1 hn e1 hx => ⟨a, xs, rfl, sq_of hx, for_it (D := { D with nx := tz D }) (walk_enum (xs := xs)) (Pv a) (h0 a H1 hn e1 hx) (hl a) (fun i x σ' H' H2 hi p y => by
    obtain ⟨T, z, w, rfl, h2, rfl, h4, h5⟩ := y
    cases h4
    exact hs a i w σ' H' T h5 p h2) (hd a)⟩
/-- the pair's two names -/
theorem g_pair {i j : Nat} {T : Addr} {x y : V} {k : L2.St → Hp → Prop} (hT : SqT K H T [x, y]) (h : k ((σ.set i (some x)).set j (some y)) H) : gTup K 2 (gCons (gName i) (gCons (gName j) gNil)) (.ref T) σ H k :=
  ⟨T, [x, y], rfl, hT, rfl, x, [y], rfl, y, [], rfl, rfl, h⟩
theorem g_triple {i j l : Nat} {T : Addr} {x y z : V} {k : L2.St → Hp → Prop} (hT : SqT K H T [x, y, z]) (h : k (((σ.set i (some x)).set j (some y)).set l (some z)) H) : gTup K 3 (gCons (gName i) (gCons (gName j) (gCons (gName l) gNil))) (.ref T) σ H k :=
  ⟨T, [x, y, z], rfl, hT, rfl, x, [y, z], rfl, y, [z], rfl, z, [], rfl, rfl, h⟩
end
end Wk

/-! Two rules of our own: tuple(list) whose object is known; a tuple's method. -/
namespace Wk
open PySem L2 Evl PyProof.Rows
section
variable {X : Cx}
/-- tuple(list): a new object of the class tuple, without a dict, known from now on -/
theorem call_tuple_frz : CallR X (.type "tuple") (fun xs H Q => ∃ p ys, xs = [.ref p] ∧ SqL X.K H p ys ∧ ∀ l o, H l = none → o.cls = .type "tuple" → o.dict = none → Q (.ref l) (upd H l (.frz o (.tup ys)))) := by
  intro pins s σ H args us Q I r h
  obtain ⟨p, ys, rfl, hl, q⟩ := h
  obtain ⟨u, rfl, hu⟩ := vals1 r
  cases hu
  obtain ⟨its, hv, hpl, hz⟩ := I.list hl
  have hn := hv.length
  refine call_tuple_list hpl.isList (fun g hk => ?_) (by simp only [List.size_toArray]; omega)
  have I1 : Inv X pins σ H { s with heap := g } := I.kept (t' := s.toks) hk
  have hnew : ObjOk X.prog X.w (upd H g.objs.size (.frz { cls := .type "tuple", data := .seq its.toArray } (.tup ys))) (g.push { cls := .type "tuple", data := .seq its.toArray }) g.objs.size
      (.frz { cls := .type "tuple", data := .seq its.toArray } (.tup ys)) := ⟨Heap.get?_push_size _ rfl, hz, its, hv, IsTup.new _ _⟩
  have I2 := I1.laid (t' := s.toks) (a := g.objs.size) (fun b o e => Heap.get?_push_of_some _ e) (Nat.le_refl _) hnew
  exact ⟨.ref g.objs.size, _, I2, rfl, q _ _ (I1.hok.fresh (Nat.le_refl _)) rfl rfl⟩
/-- the value is a tuple whose object is known and bears no dict -/
def knownT (x : V) (H : Hp) : Prop := ∃ p o ys, x = .ref p ∧ H p = some (.frz o (.tup ys)) ∧ o.cls = .type "tuple" ∧ o.dict = none
def tBMT (r : V → List V → Hp → VK → Prop) (to : TE) (t : TA) : TE := fun σ H Q => to σ H fun x H1 => knownT x H1 ∧ t σ H1 fun xs H2 => r x xs H2 Q
variable {o e : Expr} {es : List Expr} {to : TE} {t : TA} {name : Str} {apos cpos : Pos} {id : String} {r : V → List V → Hp → VK → Prop}
theorem pe_bmT (pa : PlainAttrs "tuple") (slot : Slot "tuple" name id) (hty : typeOf (.builtin id) = pure (.type "method_descriptor")) (hm : MtR X id r) (ho : PE X o to) (ha : PA X (e :: es) t)
    (hb : attributeBase o name X.env (eval o X.env) = eval o X.env := by rfl)
    (hf : ((backTo cpos (starEach (e :: es) X.env)).all (fun x => !x.1) && (backToKw cpos (keywordEach [] X.env)).all (fun x => x.1.isSome)
      && decide ((e :: es).length + ([] : List Keyword).length + (if ([] : List Keyword).isEmpty then 0 else 1) < 30)) = true := by rfl)
    (hl : (apos.endLine == cpos.line) = true := by rfl) (hs : starEach (e :: es) X.env = (false, eval e X.env) :: starEach es X.env := by rfl) (hp : (backTo cpos (starEach es X.env)).any (·.1) = false := by rfl) :
    PE X (.Call (.Attribute o name apos) (e :: es) [] cpos) (tBMT r to t) := by
  constructor
  intro pins s σ H Q I h
  refine wpAny_Call_method_late hb hf hl rfl (thn (ho.run pins s σ H _ I h) fun v s1 hv => ?_)
  obtain ⟨x, H1, I1, r1, ⟨p, ob, ys, rfl, hob, hc, hd⟩, q1⟩ := hv
  obtain rfl : v = Value.ref p := r1
  obtain ⟨hg, _⟩ := I1.hok p _ hob
  refine ⟨"tuple", id, pa, slot, hty, ⟨ob, hg, hc⟩, fun a ea => ?_, ?_⟩
  · cases ea
    exact ⟨ob, hg, hd⟩
  · have hA := ha.run cpos pins s1 σ H1 _ I1 q1
    rw [hs] at hA ⊢
    have hq : (false || (backTo cpos (starEach es X.env)).any (·.1)) = false := by rw [hp]; rfl
    refine Calls.callWith_builtin hq (Calls.evalArgs_plain (thn hA fun us s2 hu => ?_))
    obtain ⟨vs, H2, I2, r2, q2⟩ := hu
    exact hm pins s2 σ H2 (.ref p) vs _ us Q I2 rfl r2 q2
end
end Wk

/-! is_name -/
namespace Wk
open PySem L2 Evl
abbrev sea : Str := "sea"
abbrev letters : Str := "abcdefghijklmnopqrstuvwxyz"
/-- 1 to 8 letters -/
def IsNm (x : Str) : Prop := 1 ≤ x.length ∧ x.length ≤ 8 ∧ ∀ c ∈ x.cps.toList, c ∈ letters.cps.toList
def spIsName : Sp := fun vs H Q _ => ∃ x : Str, vs = [.str x] ∧ IsNm x ∧ RetV (.bl true) H Q
section
variable {P : Program} {w : World} {K : PySem.W.Frag} {mg : Str → Option Value} {base : Heap} {A : Adr}
theorem scIsName : FnScope ["value", "letter"] ["value"] (defScope sIsName) := ⟨rfl, rfl, rfl, by decide +kernel, rfl, by decide +kernel, by decide +kernel⟩
theorem ok_isName (T : Txt K mg A) : FnOk P w K mg base CX0 1 A.fIsName A.dIsName ["value"] spIsName := by
  refine T.fnIsName.ok scIsName (fun vs H Q E h => ?_) (fun cdv AA outer s H vs Q E hr h => ?_)
  · obtain ⟨x, rfl, _⟩ := h
    rfl
  · obtain ⟨x, rfl, ⟨h1, h8, hx⟩, k⟩ := h
    obtain ⟨tL, hL⟩ := T.mgLE
    refine ⟨_, pss_cons (ps_if (PW.pt (pw_or (pt_not (pt_val (pe_callB call_isi (by rfl) T.b_isinstance (by decide +kernel) (pa_cons (pv 0) (pa_cons (pe_bltn (v := .ty "str") (by rfl) T.b_str (by decide +kernel) rfl) pa_nil)))))
        (pw_or1 (pt_not (pt_chain op_le op_le pe_int (pe_callB call_len_str (by rfl) T.b_len PySem.boot_len (pa_cons (pv 0) pa_nil)) pe_int))))) (pss_one (ps_ret pe_bl)) pss_nil)
      (pss_one (ps_ret (pe_callB (cr_all rfl) (by rfl) T.b_all (by decide +kernel) (pa_cons
        (pe_lc (own := [("letter", 1)]) (g := gName 1) (tt := tYes) rfl scIsName.nd (pi_str (pv 0)) (blkOk_by (own := [("letter", 1)]) (N := ["value", "letter"]) (sc := defScope sIsName) (by decide +kernel))
          (fun _ _ _ _ _ => pg_name (i := 1) scIsName.nd rfl (Or.inl rfl)) (fun _ _ _ _ _ => pts_nil)
          (fun _ _ _ _ _ => pe_cmpR op_in_sign (pv 1) (pe_glob (v := .str letters) rfl hL ⟨_, rfl⟩) rfl)) pa_nil)))), ?_⟩
    refine q_when (b := false) (et_or (a := false) (b := false) (et_not (a := true) (et_B (ev_isi (ea_cons (ev_var rfl) (ea_cons ev_c ea_nil)) (fun _ _ => .base (.str _)) (kit_ty (by decide +kernel)))))
      fun _ => et_not (a := true) (et_test (ev_chainI ev_c (ev_lenStr (ea_cons (ev_var rfl) ea_nil) (by omega)) ev_c (by simp; omega)))) (fun h => nomatch h) (fun _ H1 e1 => ?_)
    refine s_ret (v := .bl true) ?_ fun H2 e2 => k H2 (e1.trans e2)
    refine ev_allc x.cps.toList (fun _ => true) (src_len (src_str (z := x) (ev_var rfl)) (by simp)) (by have : x.cps.size = x.length := rfl; simp; omega) (fun i y v H2 hy e2 hI => ?_) (List.all_eq_true.mpr fun _ _ => rfl)
    obtain ⟨c, hc, rfl⟩ := hI
    have hyc : y = c := by
      have : x.cps.toList[i]? = x.cps[i]? := by simp
      rw [hy, hc] at this
      exact Option.some.inj this
    subst hyc
    exact ⟨_, tgt_name rfl, ev_inSign (ev_var rfl) ev_c (decide_eq_true (hx y (List.mem_of_getElem? hy)))⟩
end
end Wk

/-! is_wrong_row, reaches_sea, river_fault, course_of -/
namespace Wk
open PySem L2 Evl
theorem paired_get {α γ : Type} {F : α → γ → Prop} : ∀ {l : List α} {m : List γ} {i : Nat} {a : α}, Paired F l m → l[i]? = some a → ∃ b, m[i]? = some b ∧ F a b
  | _, _, _, _, .nil, e => by simp at e
  | _, _, 0, _, .cons r _, e => by simp at e; subst e; exact ⟨_, rfl, r⟩
  | _, _, i + 1, a, .cons _ t, e => by
    obtain ⟨b, h1, h2⟩ := paired_get (i := i) (a := a) t (by simpa using e)
    exact ⟨b, by simpa using h1, h2⟩
theorem paired_len {α γ : Type} {F : α → γ → Prop} : ∀ {l : List α} {m : List γ}, Paired F l m → l.length = m.length
  | _, _, .nil => rfl
  | _, _, .cons _ t => by simp [paired_len t]
/-- a list of pairs of texts -/
def RowsAt (H : Hp) (a : Addr) (rows : List (Str × Str)) : Prop := ∃ ps : List Addr, H a = some (.lst (ps.map V.ref)) ∧ Paired (fun p (r : Str × Str) => H p = some (.tup [.str r.1, .str r.2])) ps rows
theorem RowsAt.ex {H H' : Hp} {a : Addr} {rows : List (Str × Str)} (e : Ex H H') (h : RowsAt H a rows) : RowsAt H' a rows := by
  obtain ⟨ps, h1, h2⟩ := h
  exact ⟨ps, e _ _ h1, Paired.mapP h2 fun p r q => e _ _ q⟩
theorem refs_get {ps : List Addr} {i : Nat} {x : V} (h : (ps.map V.ref)[i]? = some x) : ∃ p, x = .ref p ∧ ps[i]? = some p := by
  rw [List.getElem?_map] at h
  cases e : ps[i]? with
  | none => rw [e] at h; cases h
  | some p => rw [e] at h; exact ⟨p, (Option.some.inj h).symm, rfl⟩
/-- a dict of texts to texts, the rows' entries in order -/
def lowKV (rows : List (Str × Str)) : List (Key × V) := rows.map fun r => (Sum.inr r.1, V.str r.2)
theorem lowKV_keys (rows : List (Str × Str)) : (lowKV rows).map (·.1) = (rows.map (·.1)).map Sum.inr := by
  unfold lowKV
  rw [List.map_map, List.map_map]
  rfl
theorem lowKV_get {rows : List (Str × Str)} (nd : (rows.map (·.1)).Nodup) {r : Str × Str} (h : r ∈ rows) : valV (lowKV rows) (Sum.inr r.1 : Key) = some (.str r.2) := by
  obtain ⟨v, h1, h2⟩ := valV_mem (kvs := lowKV rows) (k := (Sum.inr r.1 : Key)) (by rw [lowKV_keys]; exact List.mem_map.mpr ⟨r.1, List.mem_map.mpr ⟨r, h, rfl⟩, rfl⟩)
  rw [h1]
  unfold lowKV at h2
  obtain ⟨q, hq, e⟩ := List.mem_map.mp h2
  have e1 : q.1 = r.1 := Sum.inr.inj (congrArg Prod.fst e)
  have e2 : V.str q.2 = v := congrArg Prod.snd e
  have a1 := low_of (sea := sea) nd hq
  have a2 := low_of (sea := sea) nd h
  rw [e1] at a1
  rw [← e2, ← a1, a2]
theorem lowKV_none {rows : List (Str × Str)} {x : Str} (h : x ∉ rows.map (·.1)) : valV (lowKV rows) (Sum.inr x : Key) = none := by
  refine valV_out ?_
  rw [lowKV_keys]
  intro z
  obtain ⟨u, hu, e⟩ := List.mem_map.mp z
  cases e
  exact h hu

/-- a value is a tuple of these texts -/
def IsT (ss : List Str) (v : V) (H : Hp) : Prop := ∃ p, v = .ref p ∧ Rd H p (.tup (ss.map V.str))
/-- .. one whose very object is known (it bears no dict of its own) -/
def IsC (ss : List Str) (v : V) (H : Hp) : Prop := ∃ p o, v = .ref p ∧ H p = some (.frz o (.tup (ss.map V.str))) ∧ o.cls = .type "tuple" ∧ o.dict = none
theorem IsT.ex {ss : List Str} {v : V} {H H' : Hp} (e : Ex H H') (h : IsT ss v H) : IsT ss v H' := by
  obtain ⟨p, h1, h2⟩ := h
  exact ⟨p, h1, ex_rd e h2⟩
theorem IsC.ex {ss : List Str} {v : V} {H H' : Hp} (e : Ex H H') (h : IsC ss v H) : IsC ss v H' := by
  obtain ⟨p, o, h1, h2, h3⟩ := h
  exact ⟨p, o, h1, e _ _ h2, h3⟩
theorem IsC.t {ss : List Str} {v : V} {H : Hp} (h : IsC ss v H) : IsT ss v H := by
  obtain ⟨p, o, h1, h2, h3⟩ := h
  exact ⟨p, h1, .inr ⟨o, h2⟩⟩
theorem IsT.sq {K : PySem.W.Frag} {ss : List Str} {v : V} {H : Hp} (h : IsT ss v H) : ∃ p, v = .ref p ∧ SqT K H p (ss.map V.str) := by
  obtain ⟨p, h1, h2⟩ := h
  exact ⟨p, h1, .inl h2⟩
def spWrongRow : Sp := fun vs H Q _ => ∃ (a d : Addr) (x b : Str) (kvs : List (Key × V)), vs = [.ref a, .ref d] ∧ H a = some (.tup [.str x, .str b]) ∧ IsNm x ∧ IsNm b ∧ x ≠ sea ∧ H d = some (.dK kvs) ∧ valV kvs (Sum.inr x : Key) = none ∧ RetV (.bl false) H Q
def spReaches : Sp := fun vs H Q _ => ∃ (x : Str) (d : Addr) (rows : List (Str × Str)) (c : List Str), vs = [.str x, .ref d] ∧ H d = some (.dK (lowKV rows)) ∧ (rows.map (·.1)).Nodup ∧ IsPath sea rows x c ∧ c.length ≤ rows.length ∧ rows.length ≤ 40 ∧ RetV (.bl true) H Q
def spCourseOf : Sp := fun vs H Q _ => ∃ (x : Str) (d : Addr) (rows : List (Str × Str)) (c : List Str), vs = [.str x, .ref d] ∧ H d = some (.dK (lowKV rows)) ∧ (rows.map (·.1)).Nodup ∧ IsPath sea rows x c ∧ c.length ≤ 40 ∧ RetP (IsC c) H Q
/-- what the law's maker gives: a river whose names are names -/
structure RiverOk (rows : List (Str × Str)) : Prop where
  good : GoodRiver sea rows
  most : rows.length ≤ 40
  nm : ∀ r ∈ rows, IsNm r.1 ∧ IsNm r.2
def spRivFault : Sp := fun vs H Q _ => ∃ (a : Addr) (rows : List (Str × Str)), vs = [.ref a] ∧ RowsAt H a rows ∧ RiverOk rows ∧ RetV .non H Q
section
variable {P : Program} {w : World} {K : PySem.W.Frag} {mg : Str → Option Value} {base : Heap} {A : Adr}
theorem scWrongRow : FnScope ["entry", "earlier", "weir", "below"] ["entry", "earlier"] (defScope sWrongRow) := ⟨rfl, rfl, rfl, by decide +kernel, rfl, by decide +kernel, by decide +kernel⟩
theorem ok_wrongRow (T : Txt K mg A) : FnOk P w K mg base CX0 2 A.fWrongRow A.dWrongRow ["entry", "earlier"] spWrongRow := by
  have GN : FnOk P w K mg base CX0 1 A.fIsName A.dIsName ["value"] spIsName := ok_isName T
  refine T.fnWrongRow.ok scWrongRow (fun vs H Q E h => ?_) (fun cdv AA outer s H vs Q E hr h => ?_)
  · obtain ⟨a, d, x, b, kvs, rfl, _⟩ := h
    rfl
  · obtain ⟨a, d, x, b, kvs, rfl, ha, hx, hb, hs, hd, hn, k⟩ := h
    have hu := hu_of hr
    refine ⟨_, pss_cons (ps_if (PW.pt (pw_or (pt_not (pt_val (pe_callB call_isi (by rfl) T.b_isinstance (by decide +kernel) (pa_cons (pv 0) (pa_cons (pe_bltn (v := .ty "tuple") (by rfl) T.b_tuple (by decide +kernel) rfl) pa_nil)))))
        (pw_or1 (pt_cmpR op_ne (pe_callB call_len_seq (by rfl) T.b_len PySem.boot_len (pa_cons (pv 0) pa_nil)) pe_int (nomark _))))) (pss_one (ps_ret pe_bl)) pss_nil)
      (pss_cons (ps_asg (pv 0) (pg_tup rfl (pgs_cons (pg_name (i := 2) scWrongRow.nd rfl (.inl rfl)) (pgs_cons (pg_name (i := 3) scWrongRow.nd rfl (.inl rfl)) pgs_nil))))
      (pss_cons (ps_if (PW.pt (pw_or (pt_not (pt_val (pe_call GN hr rfl T.mgIsName T.fnIsName.kp T.bdIsName .nil pass0 (pa_cons (pv 2) pa_nil))))
        (pw_or1 (pt_not (pt_val (pe_call GN hr rfl T.mgIsName T.fnIsName.kp T.bdIsName .nil pass0 (pa_cons (pv 3) pa_nil))))))) (pss_one (ps_ret pe_bl)) pss_nil)
      (pss_one (ps_ret (pe_or (pe_cmpR op_eq (pv 2) pe_str (nomark _)) (pe_one (pe_cmp (pc_din hu (pv 2) (pv 1))))))))), ?_⟩
    refine q_when (b := false) (et_or (a := false) (b := false) (et_not (a := true) (et_B (ev_isi (ea_cons (ev_var rfl) (ea_cons ev_c ea_nil)) (fun H1 e => .base (.tup (e _ _ ha))) (kit_ty (by decide +kernel)))))
      fun _ => et_test (ev_neI (ev_lenSq (ea_cons (ev_var rfl) ea_nil) (.inr (st_of ha))) ev_c rfl)) (fun h => nomatch h) (fun _ H1 e1 => ?_)
    refine ⟨_, rfl, g_pair (st_of (e1 _ _ ha)) ?_⟩
    have name : ∀ {te : TE} {σ : L2.St} {z : Str} {H1 : Hp}, IsNm z → Ev te σ H1 (.str z) → Ev (tCall spIsName [] E0 (tCons te tNil)) σ H1 (.bl true) := fun {te σ z H1} hz ht => ev_call (ea_cons ht ea_nil) fun H2 e Q q E => ⟨z, rfl, hz, q⟩
    refine q_when (b := false) (et_or (a := false) (b := false) (et_not (a := true) (et_B (name hx (ev_var rfl)))) fun _ => et_not (a := true) (et_B (name hb (ev_var rfl)))) (fun h => nomatch h) (fun _ H2 e2 => ?_)
    refine s_ret (v := .bl false) (ev_orV (a := false) (b := false) (ev_eqS (ev_var rfl) ev_c (decide_eq_false hs)) fun _ => ev_din (k := Sum.inr x) (ev_var rfl) (ev_var rfl) (.inl ((e1.trans e2) _ _ hd)) (by rw [hn]; rfl)) fun H3 e3 => k H3 ((e1.trans e2).trans e3)
theorem scReaches : FnScope ["weir", "lower", "step"] ["weir", "lower"] (defScope sReaches) := ⟨rfl, rfl, rfl, by decide +kernel, rfl, by decide +kernel, by decide +kernel⟩
theorem ok_reaches (T : Txt K mg A) : FnOk P w K mg base CX0 1 A.fReaches A.dReaches ["weir", "lower"] spReaches := by
  refine T.fnReaches.ok scReaches (fun vs H Q E h => ?_) (fun cdv AA outer s H vs Q E hr h => ?_)
  · obtain ⟨x, d, rows, c, rfl, _⟩ := h
    rfl
  · obtain ⟨x, d, rows, c, rfl, hd, nd, hp, hl, hm, k⟩ := h
    have hu := hu_of hr
    have hlen : (lowKV rows).length = rows.length := by unfold lowKV; simp
    refine ⟨_, pss_cons (ps_for PassesOwn.never rfl (pi_range1 rfl T.b_range (pa_cons (pe_callB call_lenD (by rfl) T.b_len PySem.boot_len (pa_cons (pv 1) pa_nil)) pa_nil)) (pg_name (i := 2) scReaches.nd rfl (Or.inl rfl))
        (pss_cons (ps_if (pt_cmpR op_eq (pv 0) pe_str (nomark _)) (pss_one (ps_ret pe_bl)) pss_nil)
        (pss_one (ps_set (i := 0) scReaches.nd rfl (Or.inl rfl) (pe_dget hu (pv 1) (pv 0) (fun _ _ => rfl))))))
      (pss_one (ps_ret (pe_cmpR op_eq (pv 0) pe_str (nomark _)))), ?_⟩
    refine q_forR1 (n := rows.length) (ea_cons (by have := ev_lenD (ta := tCons (tVar 1) tNil) (σ := L2.start ["weir", "lower", "step"] [V.str x, V.ref d]) (H := H) (ea_cons (ev_var rfl) ea_nil) hd; rw [hlen] at this; exact this) ea_nil) (by omega)
      (fun i σ' H' => ∃ (y : Str) (c' : List Str) (v : Option V), σ' = [some (.str y), some (.ref d), v] ∧ Ex H H' ∧ IsPath sea rows y c' ∧ c'.length + i ≤ rows.length) (fun H1 e1 => ⟨x, c, none, rfl, e1, hp, by omega⟩) ?_ ?_
    · rintro i σ' H' hi ⟨y, c', v, rfl, e1, hp', hl'⟩
      by_cases hy : y = sea
      · refine q_when (b := true) (et_test (ev_eqS (ev_var rfl) ev_c (decide_eq_true hy))) (fun _ H2 e2 => s_ret ev_c fun H3 e3 => k H3 ((e1.trans e2).trans e3)) (fun h => nomatch h)
      · refine q_when (b := false) (et_test (ev_eqS (ev_var rfl) ev_c (decide_eq_false hy))) (fun h => nomatch h) (fun _ H2 e2 => ?_)
        cases c' with
        | nil => exact absurd hp' hy
        | cons z r =>
          obtain ⟨rfl, _, hmem, hp2⟩ := hp'
          refine s_asg (v := .str (low sea rows z)) (ev_dget (k := Sum.inr z) (ev_var rfl) (ev_var rfl) (.inl ((e1.trans e2) _ _ hd)) (lowKV_get nd hmem)) fun H3 e3 => ?_
          exact ⟨_, r, _, rfl, (e1.trans e2).trans e3, hp2, by simp at hl'; omega⟩
    · rintro σ' H' ⟨y, c', v, rfl, e1, hp', hl'⟩
      have hc : c' = [] := List.eq_nil_of_length_eq_zero (by omega)
      subst hc
      exact s_ret (v := .bl true) (ev_eqS (ev_var rfl) ev_c (decide_eq_true hp')) fun H3 e3 => k H3 (e1.trans e3)
theorem scCourseOf : FnScope ["weir", "lower", "found"] ["weir", "lower"] (defScope sCourseOf) := ⟨rfl, rfl, rfl, by decide +kernel, rfl, by decide +kernel, by decide +kernel⟩
theorem ok_courseOf (T : Txt K mg A) : FnOk P w K mg base CX0 1 A.fCourseOf A.dCourseOf ["weir", "lower"] spCourseOf := by
  refine T.fnCourseOf.ok scCourseOf (fun vs H Q E h => ?_) (fun cdv AA outer s H vs Q E hr h => ?_)
  · obtain ⟨x, d, rows, c, rfl, _⟩ := h
    rfl
  · obtain ⟨x, d, rows, c, rfl, hd, nd, hp, hm, k⟩ := h
    have hu := hu_of hr
    refine ⟨_, pss_cons (ps_set (i := 2) scCourseOf.nd rfl (.inl rfl) (pe_lst pa_nil))
      (pss_cons (ps_while PassesOwn.never (pt_cmpR op_ne (pv 0) pe_str (nomark _))
        (pss_cons (ps_expr (pe_bm PySem.F.plainAttrs_list PySem.F.slot_list_append PySem.F.type_list_append mt_append (pv 2) (pa_cons (pv 0) pa_nil)))
        (pss_one (ps_set (i := 0) scCourseOf.nd rfl (Or.inl rfl) (pe_dget hu (pv 1) (pv 0) (fun _ _ => rfl))))))
      (pss_one (ps_ret (pe_callTy call_tuple_frz (by rfl) T.b_tuple (by decide +kernel) (pa_cons (pv 2) pa_nil))))), ?_⟩
    refine q_asgL (el_lst ea_nil (by simp)) fun l H1 nl e1 hl => ?_
    refine q_while (fun m σ' H' => ∃ (y : Str) (c' done : List Str), σ' = [some (.str y), some (.ref d), some (.ref l)] ∧ Ex H H' ∧ H' l = some (.lst (done.map V.str)) ∧ IsPath sea rows y c' ∧ done ++ c' = c ∧ m = c'.length) c.length ⟨x, c, [], rfl, e1, hl, hp, rfl, rfl⟩ ?_
    rintro m σ' H' ⟨y, c', done, rfl, e2, h2, hp', hdc, rfl⟩
    by_cases hy : y = sea
    · refine ⟨false, et_test (ev_neS (ev_var rfl) ev_c (by rw [decide_eq_true hy]; rfl)), (fun h => nomatch h), fun _ H3 e3 => ?_⟩
      have hc : c' = [] := by
        cases c' with
        | nil => rfl
        | cons z r => exact absurd hy (by have := hp'.2.1; exact this)
      subst hc
      rw [List.append_nil] at hdc
      subst hdc
      refine ⟨_, rfl, l, _, rfl, sq_of (e3 _ _ h2), fun q o nq oc od => ?_⟩
      exact k _ _ ((e2.trans e3).trans (Ex.new nq)) ⟨q, o, rfl, upd_same, oc, od⟩
    · refine ⟨true, et_test (ev_neS (ev_var rfl) ev_c (by rw [decide_eq_false hy]; rfl)), fun _ H3 e3 => ?_, (fun h => nomatch h)⟩
      cases c' with
      | nil => exact absurd hp' hy
      | cons z r =>
        obtain ⟨rfl, _, hmem, hp2⟩ := hp'
        refine ⟨fun σ2 H2 => ∃ (y : Str) (c' done : List Str), σ2 = [some (.str y), some (.ref d), some (.ref l)] ∧ Ex H H2 ∧ H2 l = some (.lst (done.map V.str)) ∧ IsPath sea rows y c' ∧ done ++ c' = c ∧ c'.length = r.length, fun σ2 H2 ⟨y, c', done, a1, a2, a3, a4, a5, a6⟩ => ⟨r.length, by simp, y, c', done, a1, a2, a3, a4, a5, a6.symm⟩, ?_⟩
        have hdl : (done.map V.str).length < 100000 := by
          have := congrArg List.length hdc
          simp at this ⊢
          omega
        refine q_app (e3 _ _ h2) (ev_var rfl) (ev_var rfl) hdl fun H4 e4 => ?_
        have e5 : Ex H (upd H4 l (.lst (done.map V.str ++ [.str z]))) := Ex.mut ((e2.trans e3).trans e4) nl
        refine s_asg (v := .str (low sea rows z)) (ev_dget (k := Sum.inr z) (ev_var rfl) (ev_var rfl) (.inl (e5 _ _ hd)) (lowKV_get nd hmem)) fun H6 e6 => ?_
        exact ⟨_, r, done ++ [z], rfl, e5.trans e6, by rw [e6 _ _ upd_same]; simp, hp2, by rw [← hdc]; simp, rfl⟩
end
end Wk

/-! river_fault; River -/
namespace Wk
open PySem L2 Evl
theorem lowKV_snoc (rows : List (Str × Str)) {x b : Str} (h : x ∉ rows.map (·.1)) : putK (lowKV rows) (Sum.inr x : Key) (.str b) = lowKV (rows ++ [(x, b)]) := by
  rw [putK_end]
  · unfold lowKV
    rw [List.map_append]
    rfl
  · rw [lowKV_keys]
    intro z
    obtain ⟨u, hu, e⟩ := List.mem_map.mp z
    cases e
    exact h hu
theorem take_out {α β : Type} {f : α → β} {l : List α} (nd : (l.map f).Nodup) {i : Nat} {x : α} (h : l[i]? = some x) : f x ∉ (l.take i).map f ∧ l.take (i + 1) = l.take i ++ [x] := by
  obtain ⟨hi, e⟩ := List.getElem?_eq_some_iff.mp h
  have ht : l.take (i + 1) = l.take i ++ [x] := by rw [List.take_succ_eq_append_getElem hi, e]
  refine ⟨fun z => ?_, ht⟩
  have h1 : ((l.take (i + 1)).map f).Nodup := by
    rw [List.map_take]
    exact List.Nodup.sublist (List.take_sublist _ _) nd
  rw [ht, List.map_append, List.nodup_append] at h1
  exact h1.2.2 _ z _ (List.mem_singleton.mpr rfl) rfl
section
variable {P : Program} {w : World} {K : PySem.W.Frag} {mg : Str → Option Value} {base : Heap} {A : Adr}
theorem scRivFault : FnScope ["rows", "lower", "place", "entry"] ["rows"] (defScope sRivFault) := ⟨rfl, rfl, rfl, by decide +kernel, rfl, by decide +kernel, by decide +kernel⟩
theorem ok_rivFault (T : Txt K mg A) : FnOk P w K mg base CX0 3 A.fRivFault A.dRivFault ["rows"] spRivFault := by
  have GW : FnOk P w K mg base CX0 2 A.fWrongRow A.dWrongRow ["entry", "earlier"] spWrongRow := ok_wrongRow T
  have GR : FnOk P w K mg base CX0 1 A.fReaches A.dReaches ["weir", "lower"] spReaches := ok_reaches T
  refine T.fnRivFault.ok scRivFault (fun vs H Q E h => ?_) (fun cdv AA outer s H vs Q E hr h => ?_)
  · obtain ⟨a, rows, rfl, _⟩ := h
    rfl
  · obtain ⟨a, rows, rfl, hA, hok, k⟩ := h
    obtain ⟨tM, hM⟩ := T.mgMW
    have hu := hu_of hr
    obtain ⟨ps, ha, hps⟩ := id hA
    have hlen : ps.length = rows.length := paired_len hps
    have G := hok.good
    have hne : 1 ≤ rows.length := by
      have := G.ne
      cases hrr : rows with
      | nil => exact absurd hrr this
      | cons _ _ => simp
    have hm := hok.most
    refine ⟨_, pss_cons (ps_if (PW.pt (pw_or (pt_not (pt_val (pe_callB call_isi (by rfl) T.b_isinstance (by decide +kernel) (pa_cons (pv 0) (pa_cons (pe_bltn (v := .ty "list") (by rfl) T.b_list (by decide +kernel) rfl) pa_nil)))))
        (pw_or1 (pt_not (pt_chain op_le op_le pe_int (pe_callB call_len_seq (by rfl) T.b_len PySem.boot_len (pa_cons (pv 0) pa_nil)) (pe_glob (v := .int 40) rfl hM ⟨_, rfl⟩)))))) (pss_one (ps_ret (pe_un un_neg pe_int))) pss_nil)
      (pss_cons (ps_set (i := 1) scRivFault.nd rfl (.inl rfl) pe_dnewK)
      (pss_cons (ps_for PassesOwn.never rfl (pi_enum (by rfl) T.b_enumerate (pa_cons (pv 0) pa_nil)) (pg_tup rfl (pgs_cons (pg_name (i := 2) scRivFault.nd rfl (.inl rfl)) (pgs_cons (pg_name (i := 3) scRivFault.nd rfl (.inl rfl)) pgs_nil)))
        (pss_cons (ps_if (pt_val (pe_call GW hr rfl T.mgWrongRow T.fnWrongRow.kp T.bdWrongRow .nil pass0 (pa_cons (pv 3) (pa_cons (pv 1) pa_nil)))) (pss_one (ps_ret (pv 2))) pss_nil)
        (pss_one (ps_dput hu (pv 1) (pe_ix ix_tup (pv 3) pe_int (fun _ _ => rfl)) (pe_ix ix_tup (pv 3) pe_int (fun _ _ => rfl)) rfl))))
      (pss_cons (ps_for PassesOwn.never rfl (pi_enum (by rfl) T.b_enumerate (pa_cons (pv 0) pa_nil)) (pg_tup rfl (pgs_cons (pg_name (i := 2) scRivFault.nd rfl (.inl rfl)) (pgs_cons (pg_name (i := 3) scRivFault.nd rfl (.inl rfl)) pgs_nil)))
        (pss_one (ps_if (PW.pt (pw_and (pt_cmpR op_ne (pe_ix ix_tup (pv 3) pe_int (fun _ _ => rfl)) pe_str (nomark _)) (pw_and1 (pt_cmp (pc_dnotin hu (pe_ix ix_tup (pv 3) pe_int (fun _ _ => rfl)) (pv 1)))))) (pss_one (ps_ret (pv 2))) pss_nil)))
      (pss_cons (ps_for PassesOwn.never rfl (pi_enum (by rfl) T.b_enumerate (pa_cons (pv 0) pa_nil)) (pg_tup rfl (pgs_cons (pg_name (i := 2) scRivFault.nd rfl (.inl rfl)) (pgs_cons (pg_name (i := 3) scRivFault.nd rfl (.inl rfl)) pgs_nil)))
        (pss_one (ps_if (pt_not (pt_val (pe_call GR (hr.mono (by decide)) rfl T.mgReaches T.fnReaches.kp T.bdReaches .nil pass0 (pa_cons (pe_ix ix_tup (pv 3) pe_int (fun _ _ => rfl)) (pa_cons (pv 1) pa_nil))))) (pss_one (ps_ret (pv 2))) pss_nil)))
      (pss_one (ps_ret pe_non)))))), ?_⟩
    refine q_when (b := false) (et_or (a := false) (b := false) (et_not (a := true) (et_B (ev_isi (ea_cons (ev_var rfl) (ea_cons ev_c ea_nil)) (fun H1 e => .base (.lst (e _ _ ha))) (kit_ty (by decide +kernel)))))
      fun _ => et_not (a := true) (et_test (ev_chainI ev_c (ev_lenSq (ea_cons (ev_var rfl) ea_nil) (.inl (sq_of ha))) ev_c (by simp; omega)))) (fun h => nomatch h) (fun _ H1 e1 => ?_)
    -- lower = {}
    show ∀ d, H1 d = none → _
    intro d nd1
    have nd : H d = none := fresh_back e1 nd1
    -- what an entry is
    have ent : ∀ {i : Nat} {x : V}, (ps.map V.ref)[i]? = some x → ∃ p r, x = .ref p ∧ rows[i]? = some r ∧ H p = some (.tup [.str r.1, .str r.2]) := fun {i x} hx => by
      obtain ⟨p, rfl, hp⟩ := refs_get hx
      obtain ⟨r, hr1, hr2⟩ := paired_get hps hp
      exact ⟨p, r, rfl, hr1, hr2⟩
    refine q_forE (ea_cons (ev_var rfl) ea_nil) (sq_of (by rw [upd_ne (ne_of_none (e1 _ _ ha) nd1)]; exact e1 _ _ ha))
      (fun i σ' H' => ∃ (v2 v3 : Option V), σ' = [some (.ref a), some (.ref d), v2, v3] ∧ Ex H H' ∧ H' d = some (.dK (lowKV (rows.take i))))
      (fun H2 e2 => ⟨none, none, rfl, (Ex.mut e1 nd).trans e2, e2 _ _ upd_same⟩) (fun i σ' H' _ ⟨_, _, _, e, _⟩ => sq_of (e _ _ ha)) ?_ ?_
    · rintro i x σ' H' TT hx ⟨v2, v3, rfl, e2, hd⟩ hT
      obtain ⟨p, r, rfl, hri, hp⟩ := ent hx
      have hrm : r ∈ rows := List.mem_of_getElem? hri
      obtain ⟨hout, htk⟩ := take_out (f := fun r : Str × Str => r.1) G.nd hri
      have e3 : Ex H (upd H' TT (.tup [.int (i : Nat), .ref p])) := e2.trans (Ex.new hT)
      have hd3 : (upd H' TT (.tup [.int (i : Nat), .ref p])) d = some (.dK (lowKV (rows.take i))) := by rw [upd_ne (ne_of_none hd hT)]; exact hd
      refine g_pair (st_of upd_same) ?_
      refine q_when (b := false) (et_B (ev_call (ea_cons (ev_var rfl) (ea_cons (ev_var rfl) ea_nil)) fun H4 e4 Q' q' E' => ⟨p, d, r.1, r.2, _, rfl, (e3.trans e4) _ _ hp, (hok.nm r hrm).1, (hok.nm r hrm).2, G.nosea r hrm, e4 _ _ hd3, lowKV_none hout, q'⟩)) (fun h => nomatch h) (fun _ H4 e4 => ?_)
      have e5 := e3.trans e4
      -- lower[entry[0]] = entry[1]
      refine (ev_ixT (v := .str r.2) (ev_var rfl) ev_c (st_of (e5 _ _ hp)) (at_nat (n := 1) rfl)) H4 (Ex.refl _) _ fun H5 e6 => ?_
      refine (ev_var (v := .ref d) rfl) H5 (Ex.refl _) _ fun H6 e7 => ?_
      refine (ev_ixT (v := .str r.1) (ev_var rfl) ev_c (st_of ((e5.trans (e6.trans e7)) _ _ hp)) (at_nat (n := 0) rfl)) H6 (Ex.refl _) _ fun H7 e8 => ?_
      have hd7 : H7 d = some (.dK (lowKV (rows.take i))) := (e4.trans ((e6.trans e7).trans e8)) _ _ hd3
      refine ⟨d, _, rfl, DPut.k (k := Sum.inr r.1) hd7 (small1000 (by unfold lowKV; simp; omega)), ?_⟩
      exact ⟨_, _, rfl, Ex.mut (e5.trans ((e6.trans e7).trans e8)) nd, by rw [upd_same, lowKV_snoc _ hout, htk]⟩
    · rintro σ' H' ⟨v2, v3, rfl, e2, hd⟩
      have el : (ps.map V.ref).length = rows.length := by simp [hlen]
      rw [el, List.take_length] at hd
      refine q_forE (ea_cons (ev_var rfl) ea_nil) (sq_of (e2 _ _ ha)) (fun i σ' H'' => ∃ (v2 v3 : Option V), σ' = [some (.ref a), some (.ref d), v2, v3] ∧ Ex H' H'')
        (fun H2 e3 => ⟨v2, v3, rfl, e3⟩) (fun i σ' H'' _ ⟨_, _, _, e⟩ => sq_of ((e2.trans e) _ _ ha)) ?_ ?_
      · rintro i x σ' H'' TT hx ⟨v2, v3, rfl, e3⟩ hT
        obtain ⟨p, r, rfl, hri, hp⟩ := ent hx
        have hrm : r ∈ rows := List.mem_of_getElem? hri
        have e4 : Ex H' (upd H'' TT (.tup [.int (i : Nat), .ref p])) := e3.trans (Ex.new hT)
        refine g_pair (st_of upd_same) ?_
        have hpp := (e2.trans e4) _ _ hp
        refine s_when (b := false) ?_ (fun h => nomatch h) (fun _ H5 e5 => ⟨_, _, rfl, e4.trans e5⟩)
        have t1 : EvT (tTest (tOp rNe (tOp (rIxT K) (tVar 3) (tC (.int 1))) (tC (.str sea)))) [some (.ref a), some (.ref d), some (.int (i : Nat)), some (.ref p)] (upd H'' TT (.tup [.int (i : Nat), .ref p])) (!decide (r.2 = sea)) := et_test (ev_neS (ev_ixT (v := .str r.2) (ev_var rfl) ev_c (st_of hpp) (at_nat (n := 1) rfl)) ev_c rfl)
        refine et_is (et_and (b := false) t1 fun hns => et_B (ev_dnotin (k := Sum.inr r.2) (ev_ixT (v := .str r.2) (ev_var rfl) ev_c (st_of hpp) (at_nat (n := 1) rfl)) (ev_var rfl) (.inl (e4 _ _ hd)) ?_)) (Bool.and_false _)
        have hns' : r.2 ≠ sea := by simpa using hns
        obtain ⟨rk, hrk⟩ := G.rank
        rcases (hrk r hrm).2 with z | ⟨⟨q, hq, eq⟩, _⟩
        · exact absurd z hns'
        · rw [← eq, lowKV_get G.nd hq]
          rfl
      · rintro σ' H'' ⟨v2, v3, rfl, e3⟩
        refine q_forE (ea_cons (ev_var rfl) ea_nil) (sq_of ((e2.trans e3) _ _ ha)) (fun i σ' H4 => ∃ (v2 v3 : Option V), σ' = [some (.ref a), some (.ref d), v2, v3] ∧ Ex H'' H4)
          (fun H2 e4 => ⟨v2, v3, rfl, e4⟩) (fun i σ' H4 _ ⟨_, _, _, e⟩ => sq_of ((e2.trans (e3.trans e)) _ _ ha)) ?_ ?_
        · rintro i x σ' H4 TT hx ⟨v2, v3, rfl, e4⟩ hT
          obtain ⟨p, r, rfl, hri, hp⟩ := ent hx
          have hrm : r ∈ rows := List.mem_of_getElem? hri
          have e5 : Ex H'' (upd H4 TT (.tup [.int (i : Nat), .ref p])) := e4.trans (Ex.new hT)
          refine g_pair (st_of upd_same) ?_
          have hpp := (e2.trans (e3.trans e5)) _ _ hp
          have hw : r.1 ∈ rows.map (·.1) := List.mem_map.mpr ⟨r, hrm, rfl⟩
          refine s_when (b := false) (et_not (a := true) (et_B (ev_call (ea_cons (ev_ixT (v := .str r.1) (ev_var rfl) ev_c (st_of hpp) (at_nat (n := 0) rfl)) (ea_cons (ev_var rfl) ea_nil)) fun H6 e6 Q' q' E' => ⟨r.1, d, rows, course sea rows r.1, rfl, (e3.trans (e5.trans e6)) _ _ hd, G.nd, G.path hw, G.len hw, hm, q'⟩))) (fun h => nomatch h) (fun _ H6 e6 => ⟨_, _, rfl, e5.trans e6⟩)
        · rintro σ' H4 ⟨v2, v3, rfl, e4⟩
          exact s_ret ev_c fun H5 e5 => k H5 (e2.trans (e3.trans (e4.trans e5)))
end
end Wk

/-! The class River -/
namespace Wk
open PySem L2 Evl
abbrev wns (rows : List (Str × Str)) : List Str := rows.map (·.1)
def flV (aw al ac : Addr) : List (Str × V) := [("weirs", .ref aw), ("lower", .ref al), ("courses", .ref ac)]
theorem flV_w (aw al ac : Addr) : (flV aw al ac).lookup ("weirs" : Str) = some (.ref aw) := by unfold flV; kernel_rfl
theorem flV_l (aw al ac : Addr) : (flV aw al ac).lookup ("lower" : Str) = some (.ref al) := by unfold flV; kernel_rfl
theorem flV_c (aw al ac : Addr) : (flV aw al ac).lookup ("courses" : Str) = some (.ref ac) := by unfold flV; kernel_rfl
theorem flV_need (aw al ac : Addr) : (flV aw al ac).lookup ("need" : Str) = none := by unfold flV; kernel_rfl
theorem flV_course (aw al ac : Addr) : (flV aw al ac).lookup ("course" : Str) = none := by unfold flV; kernel_rfl
theorem flV_rows (aw al ac : Addr) : (flV aw al ac).lookup ("rows" : Str) = none := by unfold flV; kernel_rfl
theorem flV_depth (aw al ac : Addr) : (flV aw al ac).lookup ("depth" : Str) = none := by unfold flV; kernel_rfl
theorem flV_down (aw al ac : Addr) : (flV aw al ac).lookup ("is_down" : Str) = none := by unfold flV; kernel_rfl
theorem flV_way (aw al ac : Addr) : (flV aw al ac).lookup ("way" : Str) = none := by unfold flV; kernel_rfl
theorem flV_put (aw al ac : Addr) : putF "courses" (.ref ac) (putF "lower" (.ref al) (putF "weirs" (.ref aw) [])) = flV aw al ac := by unfold flV; kernel_rfl
theorem flV_1 (aw : Addr) : putF "weirs" (.ref aw) [] = [(("weirs" : Str), V.ref aw)] := by kernel_rfl
theorem flV_2 (aw al : Addr) : putF "lower" (.ref al) (putF "weirs" (.ref aw) []) = [(("weirs" : Str), V.ref aw), (("lower" : Str), V.ref al)] := by kernel_rfl
theorem flV_2w (aw al : Addr) : (putF "lower" (.ref al) (putF "weirs" (.ref aw) [])).lookup ("weirs" : Str) = some (.ref aw) := by kernel_rfl
theorem flV_2l (aw al : Addr) : (putF "lower" (.ref al) (putF "weirs" (.ref aw) [])).lookup ("lower" : Str) = some (.ref al) := by kernel_rfl
/-- a River of these rows stands at p -/
def RivAt (A : Adr) (H : Hp) (p : Addr) (rows : List (Str × Str)) : Prop := ∃ (dx aw al ac : Addr) (kc : List (Key × V)), H p = some (.ins A.cV dx (flV aw al ac)) ∧ H aw = some (.tup ((rows.map (·.1)).map V.str)) ∧ H al = some (.dK (lowKV rows)) ∧ H ac = some (.dK kc) ∧
  DOf H kc (rows.map (·.1)) (fun w => IsC (course sea rows w))
theorem RivAt.ex {A : Adr} {H H' : Hp} {p : Addr} {rows : List (Str × Str)} (e : Ex H H') (h : RivAt A H p rows) : RivAt A H' p rows := by
  obtain ⟨dx, aw, al, ac, kc, h1, h2, h3, h4, h5⟩ := h
  exact ⟨dx, aw, al, ac, kc, e _ _ h1, e _ _ h2, e _ _ h3, e _ _ h4, h5.mono fun w v z => z.ex e⟩
def spVInit (A : Adr) : Sp := fun vs H Q _ => ∃ (p dx a : Addr) (rows : List (Str × Str)), vs = [.ref p, .ref a] ∧ H p = some (.ins A.cV dx []) ∧ RowsAt H a rows ∧ RiverOk rows ∧ ∀ H', (∀ b o, b ≠ p → H b = some o → H' b = some o) → RivAt A H' p rows → Q .non H'
def spVNeed (A : Adr) : Sp := fun vs H Q _ => ∃ (p : Addr) (x : Str) (rows : List (Str × Str)), vs = [.ref p, .str x] ∧ RivAt A H p rows ∧ x ∈ rows.map (·.1) ∧ RetV .non H Q
def spVRows (A : Adr) : Sp := fun vs H Q _ => ∃ (p : Addr) (rows : List (Str × Str)), vs = [.ref p] ∧ RivAt A H p rows ∧ RiverOk rows ∧ RetP (fun v H' => ∃ a, v = .ref a ∧ RowsAt H' a rows) H Q
def spVCourse (A : Adr) : Sp := fun vs H Q _ => ∃ (p : Addr) (x : Str) (rows : List (Str × Str)), vs = [.ref p, .str x] ∧ RivAt A H p rows ∧ x ∈ rows.map (·.1) ∧ RetP (IsT (course sea rows x)) H Q
def spVDepth (A : Adr) : Sp := fun vs H Q _ => ∃ (p : Addr) (x : Str) (rows : List (Str × Str)), vs = [.ref p, .str x] ∧ RivAt A H p rows ∧ x ∈ rows.map (·.1) ∧ RetV (.int (depth sea rows x)) H Q
def spVIsDown (A : Adr) : Sp := fun vs H Q _ => ∃ (p : Addr) (x y : Str) (rows : List (Str × Str)), vs = [.ref p, .str x, .str y] ∧ RivAt A H p rows ∧ x ∈ rows.map (·.1) ∧ y ∈ rows.map (·.1) ∧ RetV (.bl (decide (y ∈ course sea rows x))) H Q
def spVWay (A : Adr) : Sp := fun vs H Q _ => ∃ (p : Addr) (x y : Str) (rows : List (Str × Str)), vs = [.ref p, .str x, .str y] ∧ RivAt A H p rows ∧ RiverOk rows ∧ x ∈ rows.map (·.1) ∧ (y = sea ∨ y ∈ course sea rows x) ∧ RetP (IsT (way sea rows x y)) H Q
section
variable {K : PySem.W.Frag} {σ : L2.St} {H H' : Hp} {ta te : TE}
theorem et_notNone (h : Ev ta σ H .non) : EvT (tB (tNotN ta)) σ H false := fun H1 e Q q => h H1 e _ fun H2 e2 => ⟨false, rfl, q H2 e2⟩
/-- o.f = e -/
theorem q_fld {v : V} {f : Str} {p C dx : Addr} {fs : List (Str × V)} {tz : TS} {D : Ends} {P : V → Hp → Prop} (h : EvP te σ H P) (ho : Ev ta σ H (.ref p)) (hp : H p = some (.ins C dx fs)) (hc : Cls K C) (hn : NoAttr K C f) (hl : fs.length < 1000)
    (k : ∀ v H1, Ex H H1 → P v H1 → tz D σ (upd H1 p (.ins C dx (putF f v fs)))) (hP : Mono P) : tSeq (sFld K ta te f) tz D σ H :=
  h H (Ex.refl H) _ fun v H1 e1 pv => ho H1 e1 _ fun H2 e2 => ⟨p, C, dx, fs, rfl, (e1.trans e2) _ _ hp, hc, hn, hl, k v H2 (e1.trans e2) (hP v _ _ e2 pv)⟩
theorem s_fld {v : V} {f : Str} {p C dx : Addr} {fs : List (Str × V)} {D : Ends} {P : V → Hp → Prop} (h : EvP te σ H P) (ho : Ev ta σ H (.ref p)) (hp : H p = some (.ins C dx fs)) (hc : Cls K C) (hn : NoAttr K C f) (hl : fs.length < 1000)
    (k : ∀ v H1, Ex H H1 → P v H1 → D.nx σ (upd H1 p (.ins C dx (putF f v fs)))) (hP : Mono P) : sFld K ta te f D σ H :=
  h H (Ex.refl H) _ fun v H1 e1 pv => ho H1 e1 _ fun H2 e2 => ⟨p, C, dx, fs, rfl, (e1.trans e2) _ _ hp, hc, hn, hl, k v H2 (e1.trans e2) (hP v _ _ e2 pv)⟩
end
theorem dof_eq {f : Str → V} : ∀ {kvs : List (Key × V)} {ws : List Str} {H : Hp}, DOf H kvs ws (fun w v _ => v = f w) → kvs = ws.map fun w => ((Sum.inr w : Key), f w)
  | [], [], _, _ => rfl
  | [], _ :: _, _, h => by have := h.1; simp at this
  | _ :: _, [], _, h => by have := h.1; simp at this
  | (k, v) :: kvs, w :: ws, H, h => by
    have h1 := h.1
    rw [List.map_cons, List.map_cons] at h1
    obtain ⟨e1, e2⟩ := List.cons.inj h1
    have e1 : k = Sum.inr w := e1
    subst e1
    rw [List.map_cons, ← dof_eq (H := H) ⟨e2, fun u y m => h.2 u y (List.mem_cons_of_mem _ m)⟩, h.2 w v List.mem_cons_self]
/-- all but p stands -/
def ExO (p : Addr) (H H' : Hp) : Prop := ∀ b o, b ≠ p → H b = some o → H' b = some o
theorem ExO.refl (p : Addr) (H : Hp) : ExO p H H := fun _ _ _ h => h
theorem ExO.trans {p : Addr} {H H1 H2 : Hp} (a : ExO p H H1) (b : ExO p H1 H2) : ExO p H H2 := fun c o n h => b c o n (a c o n h)
theorem ExO.of {p : Addr} {H H' : Hp} (e : Ex H H') : ExO p H H' := fun b o _ h => e b o h
theorem ExO.up {p : Addr} {H H' : Hp} {o : HO} (e : ExO p H H') : ExO p H (upd H' p o) := fun b u n h => by rw [upd_ne n]; exact e b u n h
section
variable {P : Program} {w : World} {K : PySem.W.Frag} {mg : Str → Option Value} {base : Heap} {A : Adr}
theorem scVInit : FnScope ["self", "rows", "place", "weir", "below"] ["self", "rows"] (defScope sVInit) := ⟨rfl, rfl, rfl, by decide +kernel, rfl, by decide +kernel, by decide +kernel⟩
theorem ok_vInit (T : Txt K mg A) : FnOk P w K mg base CX0 4 A.fVInit A.dVInit ["self", "rows"] (spVInit A) := by
  have GF : FnOk P w K mg base CX0 3 A.fRivFault A.dRivFault ["rows"] spRivFault := ok_rivFault T
  have GC : FnOk P w K mg base CX0 1 A.fCourseOf A.dCourseOf ["weir", "lower"] spCourseOf := ok_courseOf T
  refine T.fnVInit.ok scVInit (fun vs H Q E h => ?_) (fun cdv AA outer s H vs Q E hr h => ?_)
  · obtain ⟨p, dx, a, rows, rfl, _⟩ := h
    rfl
  · obtain ⟨p, dx, a, rows, rfl, hp, hA, hok, k⟩ := h
    have hr1 : Room 1 _ := hr.mono (by decide)
    have G := hok.good
    have hm := hok.most
    obtain ⟨ps, ha, hps⟩ := id hA
    have hpa : a ≠ p := ne_of ha hp (by intro z; cases z)
    have hlen : ps.length = rows.length := paired_len hps
    have ent : ∀ {i : Nat} {x : V}, (ps.map V.ref)[i]? = some x → ∃ q r, x = .ref q ∧ rows[i]? = some r ∧ H q = some (.tup [.str r.1, .str r.2]) ∧ q ≠ p := fun {i x} hx => by
      obtain ⟨q, rfl, hq⟩ := refs_get hx
      obtain ⟨r, hr1, hr2⟩ := paired_get hps hq
      exact ⟨q, r, rfl, hr1, hr2, ne_of hr2 hp (by intro z; cases z)⟩
    refine ⟨_, pss_cons (ps_set (i := 2) scVInit.nd rfl (.inl rfl) (pe_call GF hr rfl T.mgRivFault T.fnRivFault.kp T.bdRivFault .nil pass0 (pa_cons (pv 1) pa_nil)))
      (pss_cons (ps_if (pt_cmp (pc_notN (pv 2))) (pss_one ps_never) pss_nil)
      (pss_cons (ps_fld (pv 0) (pe_callTy call_tuple_of (by rfl) T.b_tuple (by decide +kernel) (pa_cons
        (pe_lc (own := [("weir", 3), ("below", 4)]) (g := gTup _ 2 (gCons (gName 3) (gCons (gName 4) gNil))) (tt := tYes) rfl scVInit.nd (pi_list (pv 1)) (blkOk_by (own := [("weir", 3), ("below", 4)]) (N := ["self", "rows", "place", "weir", "below"]) (sc := defScope sVInit) (by decide +kernel))
          (fun _ _ _ _ _ => pg_tup rfl (pgs_cons (pg_name (i := 3) scVInit.nd rfl (Or.inl rfl)) (pgs_cons (pg_name (i := 4) scVInit.nd rfl (Or.inl rfl)) pgs_nil))) (fun _ _ _ _ _ => pts_nil) (fun _ _ _ _ _ => pv 3)) pa_nil)) rfl)
      (pss_cons (ps_fld (pv 0) (pe_dc (own := [("weir", 3), ("below", 4)]) (g := gTup _ 2 (gCons (gName 3) (gCons (gName 4) gNil))) (tt := tYes) rfl scVInit.nd (pi_list (pv 1)) (blkOk_by (own := [("weir", 3), ("below", 4)]) (N := ["self", "rows", "place", "weir", "below"]) (sc := defScope sVInit) (by decide +kernel))
          (fun _ _ _ _ _ => pg_tup rfl (pgs_cons (pg_name (i := 3) scVInit.nd rfl (Or.inl rfl)) (pgs_cons (pg_name (i := 4) scVInit.nd rfl (Or.inl rfl)) pgs_nil))) (fun _ _ _ _ _ => pts_nil) (fun _ _ _ _ _ => pv 3) (fun _ _ _ _ _ => pv 4)) rfl)
      (pss_one (ps_fld (pv 0) (pe_dc (own := [("weir", 3)]) (g := gName 3) (tt := tYes) (tv := tCall spCourseOf [] E0 (tCons (tVar 3) (tCons (tFld K (tVar 0) "lower") tNil))) rfl scVInit.nd (pi_tup (pe_fld (pv 0) rfl)) (blkOk_by (own := [("weir", 3)]) (N := ["self", "rows", "place", "weir", "below"]) (sc := defScope sVInit) (by decide +kernel))
          (fun _ _ _ _ _ => pg_name (i := 3) scVInit.nd rfl (Or.inl rfl)) (fun _ _ _ _ _ => pts_nil) (fun _ _ _ _ _ => pv 3)
          (fun _ _ _ _ _ => pe_call GC hr1 rfl T.mgCourseOf T.fnCourseOf.kp T.bdCourseOf .nil pass0 (pa_cons (pv 3) (pa_cons (pe_fld (pv 0) rfl) pa_nil)))) rfl))))), ?_⟩
    refine q_asg (v := .non) (ev_call (ea_cons (ev_var rfl) ea_nil) fun H1 e1 Q' q' E' => ⟨a, rows, rfl, hA.ex e1, hok, q'⟩) fun H1 e1 => ?_
    refine q_when (et_notNone (ev_var rfl)) (fun h => nomatch h) (fun _ H2 e2 => ?_)
    have e12 := e1.trans e2
    -- self.weirs
    have tgt : ∀ {H3 : Hp} {i : Nat} {v : V} {σ' : L2.St}, ExO p H H3 → (ps.map V.ref)[i]? = some v → ∃ q r, v = .ref q ∧ rows[i]? = some r ∧ SqT K H3 q [.str r.1, .str r.2] := fun {H3 i v σ'} e hv => by
      obtain ⟨q, r, h1, h2, h3, h4⟩ := ent hv
      exact ⟨q, r, h1, h2, st_of (e _ _ h4 h3)⟩
    refine q_fld (v := .non) (P := fun v H' => ∃ q, v = .ref q ∧ H' q = some (.tup ((wns rows).map V.str))) (p := p) (C := A.cV) (dx := dx) (fs := []) (K := K) ?_ (ev_var rfl) (e12 _ _ hp) T.clV T.nV_weirs (by simp) (fun v1 H3 e3 hv1 => ?_) (fun v _ _ e ⟨q, z1, z2⟩ => ⟨q, z1, e _ _ z2⟩)
    · refine (ep_u (eu_tupOf (lcM rows (fun r => V.str r.1) (src_len (src_list (ev_var rfl) (sq_of (e12 _ _ ha))) (by simp [hlen])) (by omega) (fun i r v H4 hri e4 hv => ?_)))).imp fun v H' _ z => ?_
      · obtain ⟨q, r', rfl, hri', hq⟩ := tgt (σ' := []) (ExO.of (e12.trans e4)) hv
        rw [hri] at hri'
        cases hri'
        exact ⟨_, tgt_pair hq rfl, ev_var rfl⟩
      · obtain ⟨q, h1, h2⟩ := z
        exact ⟨q, h1, by rw [h2, List.map_map]; rfl⟩
    obtain ⟨aw, rfl, hw⟩ := hv1
    have haw : aw ≠ p := ne_of hw ((e12.trans e3) _ _ hp) (by intro z; cases z)
    generalize hH4 : upd H3 p (.ins A.cV dx (putF "weirs" (.ref aw) [])) = H4
    have x4 : ExO p H H4 := by rw [← hH4]; exact (ExO.of (e12.trans e3)).up
    have hp4 : H4 p = some (.ins A.cV dx (putF "weirs" (.ref aw) [])) := by rw [← hH4]; exact upd_same
    have hw4 : H4 aw = some (.tup ((rows.map (·.1)).map V.str)) := by rw [← hH4, upd_ne haw]; exact hw
    -- self.lower
    refine q_fld (v := .non) (P := fun v H' => ∃ al, v = .ref al ∧ H' al = some (.dK (lowKV rows))) (p := p) (C := A.cV) (dx := dx) (K := K) ?_ (ev_var rfl) hp4 T.clV T.nV_lower (by rw [flV_1]; simp) (fun v2 H5 e5 hv2 => ?_) (fun v _ _ e ⟨al, z1, z2⟩ => ⟨al, z1, e _ _ z2⟩)
    · have hd := dcW (wi := iList K (tVar 1)) (g := gTup K 2 (gCons (gName 3) (gCons (gName 4) gNil))) (tk := tVar 3) (te := tVar 4) (vs := [3, 4]) (σ := [some (.ref p), some (.ref a), some .non, none, none]) (H := H4) (I := fun i x _ => (ps.map V.ref)[i]? = some x)
        rows (fun r => r.1) G.nd (fun _ w v _ => v = .str (low sea rows w)) (fun _ _ => offm_val) (src_len (src_list (ev_var rfl) (sq_of (x4 _ _ hpa ha))) (by simp [hlen])) (by omega) (fun i r v H6 D kvs hri e6 _ hv => by
          obtain ⟨q, r', rfl, hri', hq⟩ := tgt (σ' := []) (x4.trans (ExO.of e6)) hv
          rw [hri] at hri'
          cases hri'
          refine ⟨_, tgt_pair hq rfl, ev_var rfl, ?_⟩
          rw [low_of G.nd (List.mem_of_getElem? hri)]
          exact ep_of (ev_var rfl))
      intro H6 e6 Q6 q6
      refine hd H6 e6 Q6 fun d kvs H7 _ e7 hk ⟨_, hdo⟩ => q6 _ _ e7 ⟨d, rfl, ?_⟩
      rw [hk]
      refine congrArg (fun z => some (HO.dK z)) ?_
      rw [dof_eq hdo]
      unfold lowKV
      rw [List.map_map]
      refine List.map_congr_left fun r hr => ?_
      show ((Sum.inr r.1 : Key), V.str (low sea rows r.1)) = _
      rw [low_of G.nd hr]
    obtain ⟨al, rfl, hl⟩ := hv2
    have hal : al ≠ p := ne_of hl (e5 _ _ hp4) (by intro z; cases z)
    generalize hH6 : upd H5 p (.ins A.cV dx (putF "lower" (.ref al) (putF "weirs" (.ref aw) []))) = H6
    have x6 : ExO p H4 H6 := by rw [← hH6]; exact (ExO.of e5).up
    have hp6 : H6 p = some (.ins A.cV dx (putF "lower" (.ref al) (putF "weirs" (.ref aw) []))) := by rw [← hH6]; exact upd_same
    have hw6 : H6 aw = some (.tup ((rows.map (·.1)).map V.str)) := x6 _ _ haw hw4
    have hl6 : H6 al = some (.dK (lowKV rows)) := by rw [← hH6, upd_ne hal]; exact hl
    -- self.courses
    refine s_fld (v := .non) (P := fun v H' => ∃ ac kc, v = .ref ac ∧ H' ac = some (.dK kc) ∧ DOf H' kc (wns rows) (fun w => IsC (course sea rows w))) (p := p) (C := A.cV) (dx := dx) (K := K) ?_ (ev_var rfl) hp6 T.clV T.nV_courses (by rw [flV_2]; simp)
      (fun v3 H7 e7 hv3 => ?_) (fun v _ _ e ⟨ac, kc, z1, z2, z3⟩ => ⟨ac, kc, z1, e _ _ z2, z3.mono fun _ _ z => z.ex e⟩)
    · have hd := dcW (wi := iTup K (tFld K (tVar 0) "weirs")) (g := gName 3) (tk := tVar 3) (te := tCall spCourseOf [] E0 (tCons (tVar 3) (tCons (tFld K (tVar 0) "lower") tNil))) (vs := [3]) (σ := [some (.ref p), some (.ref a), some .non, none, none]) (H := H6) (I := fun i x _ => ((rows.map (·.1)).map V.str)[i]? = some x)
        (rows.map (·.1)) (fun w => w) (by rw [List.map_id']; exact G.nd) (fun D w v H' => ∃ q o, q ≠ D ∧ v = .ref q ∧ H' q = some (.frz o (.tup ((course sea rows w).map V.str))) ∧ o.cls = .type "tuple" ∧ o.dict = none) (fun D w b H H' e ⟨q, o, h1, h2, h3, h4⟩ => ⟨q, o, h1, h2, e _ _ h1 h3, h4⟩)
        (src_len (src_tup (ev_fld (ev_var rfl) hp6 T.clV T.nV_weirs (flV_2w aw al)) (st_of hw6)) (by simp)) (by simp; omega) (fun i wx v H8 D kvs hri e8 hD hv => by
          have := item_str hv hri
          subst this
          have hwm : wx ∈ rows.map (·.1) := List.mem_of_getElem? hri
          refine ⟨_, tgt_name rfl, ev_var rfl, ?_⟩
          refine (ep_call (P := IsC (course sea rows wx)) (ea_p (ea_cons (ev_var rfl) (ea_cons (ev_fld (ev_var rfl) (e8 _ _ hp6) T.clV T.nV_lower (flV_2l aw al)) ea_nil))) fun vs H9 e9 hvs Q' q' => ?_).imp fun v H' eX ⟨q, o, h1, h2, h3⟩ => ⟨q, o, ne_of h2 (eX _ _ hD) (by intro z; cases z), h1, h2, h3⟩
          subst hvs
          exact ⟨wx, al, rows, course sea rows wx, rfl, e9 _ _ (e8 _ _ hl6), G.nd, G.path hwm, Nat.le_trans (G.len hwm) hm, q'⟩)
      intro H8 e8 Q8 q8
      refine hd H8 e8 Q8 fun d kvs H9 _ e9 hk ⟨D, hdo⟩ => q8 _ _ e9 ⟨d, kvs, rfl, hk, ?_⟩
      rw [List.map_id'] at hdo
      exact ⟨hdo.1, fun w v m => let ⟨q, o, _, h2, h3⟩ := hdo.2 w v m; ⟨q, o, h2, h3⟩⟩
    obtain ⟨ac, kc, rfl, hc, hdo⟩ := hv3
    have hac : ac ≠ p := ne_of hc (e7 _ _ hp6) (by intro z; cases z)
    refine k _ (((x4.trans x6).trans (ExO.of e7)).up) ⟨dx, aw, al, ac, kc, by rw [upd_same, flV_put], by rw [upd_ne haw]; exact e7 _ _ hw6, by rw [upd_ne hal]; exact e7 _ _ hl6, by rw [upd_ne hac]; exact hc, hdo.mono fun w v z => ?_⟩
    obtain ⟨q, o, h1, h2, h3⟩ := z
    refine ⟨q, o, h1, ?_, h3⟩
    exact (by rw [upd_ne (ne_of h2 (e7 _ _ hp6) (by intro z; cases z))]; exact h2)
end
end Wk

/-! River's methods -/
namespace Wk
open PySem L2 Evl
section
variable {P : Program} {w : World} {K : PySem.W.Frag} {mg : Str → Option Value} {base : Heap} {A : Adr}
theorem scVNeed : FnScope ["self", "weir"] ["self", "weir"] (defScope sVNeed) := ⟨rfl, rfl, rfl, by decide +kernel, rfl, by decide +kernel, by decide +kernel⟩
theorem ok_vNeed (T : Txt K mg A) : FnOk P w K mg base CX0 1 A.fVNeed A.dVNeed ["self", "weir"] (spVNeed A) := by
  refine T.fnVNeed.ok scVNeed (fun vs H Q E h => ?_) (fun cdv AA outer s H vs Q E hr h => ?_)
  · obtain ⟨p, x, rows, rfl, _⟩ := h
    rfl
  · obtain ⟨p, x, rows, rfl, ⟨dx, aw, al, ac, kc, h1, h2, h3, h4, h5⟩, hx, k⟩ := h
    refine ⟨_, pss_one (ps_if (pt_cmpR op_notIn_seq (pv 1) (pe_fld (pv 0) rfl) rfl) (pss_one ps_never) pss_nil), ?_⟩
    exact s_when (b := false) (et_test (ev_notInT (ev_var rfl) (ev_fld (ev_var rfl) h1 T.clV T.nV_weirs (flV_w _ _ _)) (st_of h2) (by rw [decide_eq_true hx]; rfl))) (fun h => nomatch h) (fun _ H1 e1 => k H1 e1)
theorem scVRows : FnScope ["self", "weir"] ["self"] (defScope sVRows) := ⟨rfl, rfl, rfl, by decide +kernel, rfl, by decide +kernel, by decide +kernel⟩
theorem ok_vRows (T : Txt K mg A) : FnOk P w K mg base CX0 1 A.fVRows A.dVRows ["self"] (spVRows A) := by
  refine T.fnVRows.ok scVRows (fun vs H Q E h => ?_) (fun cdv AA outer s H vs Q E hr h => ?_)
  · obtain ⟨p, rows, rfl, _⟩ := h
    rfl
  · obtain ⟨p, rows, rfl, ⟨dx, aw, al, ac, kc, h1, h2, h3, h4, h5⟩, hok, k⟩ := h
    have hu := hu_of hr
    have G := hok.good
    have hm := hok.most
    refine ⟨_, pss_one (ps_ret (pe_lc (own := [("weir", 1)]) (g := gName 1) (tt := tYes) (te := tTup (tCons (tVar 1) (tCons (tDGet (tFld K (tVar 0) "lower") (tVar 1)) tNil))) rfl scVRows.nd (pi_tup (pe_fld (pv 0) rfl)) (blkOk_by (own := [("weir", 1)]) (N := ["self", "weir"]) (sc := defScope sVRows) (by decide +kernel))
          (fun _ _ _ _ _ => pg_name (i := 1) scVRows.nd rfl (Or.inl rfl)) (fun _ _ _ _ _ => pts_nil) (fun _ _ _ _ _ => pe_tup (pa_cons (pv 1) (pa_cons (pe_dget hu (pe_fld (pv 0) rfl) (pv 1) (fun _ _ => rfl)) pa_nil))))), ?_⟩
    have hl := lcR (wi := iTup K (tFld K (tVar 0) "weirs")) (g := gName 1) (te := tTup (tCons (tVar 1) (tCons (tDGet (tFld K (tVar 0) "lower") (tVar 1)) tNil))) (vs := [1]) (σ := L2.start ["self", "weir"] [V.ref p]) (H := H) (I := fun i x _ => ((rows.map (·.1)).map V.str)[i]? = some x)
      rows (fun D r v H' => ∃ q, q ≠ D ∧ v = .ref q ∧ H' q = some (.tup [.str r.1, .str r.2])) (fun D r b H H' e ⟨q, z1, z2, z3⟩ => ⟨q, z1, z2, e _ _ z1 z3⟩) (src_len (src_tup (ev_fld (ev_var rfl) h1 T.clV T.nV_weirs (flV_w _ _ _)) (st_of h2)) (by simp)) (by omega)
      (fun i r v H1 D acc hri e1 hD hv => by
        have hw : (wns rows)[i]? = some r.1 := by unfold wns; rw [List.getElem?_map, hri]; rfl
        have := item_str hv hw
        subst this
        have hrm := List.mem_of_getElem? hri
        refine ⟨_, tgt_name rfl, ?_⟩
        refine (ep_u (eu_tup (ea_cons (ev_var rfl) (ea_cons (ev_dget (k := Sum.inr r.1) (v := .str r.2) (ev_fld (ev_var rfl) (e1 _ _ h1) T.clV T.nV_lower (flV_l _ _ _)) (ev_var rfl) (.inl (e1 _ _ h3)) (lowKV_get G.nd hrm)) ea_nil)) (by simp))).imp fun v H' eX ⟨q, z1, z2⟩ => ⟨q, ne_of z2 (eX _ _ hD) (by intro z; cases z), z1, z2⟩)
    refine hl H (Ex.refl H) _ fun d acc H1 _ e1 hd ⟨D, hp⟩ => ?_
    refine k _ H1 e1 ⟨d, rfl, ?_⟩
    have : ∀ {rs : List (Str × Str)} {acc : List V}, Paired (fun (r : Str × Str) v => ∃ q, q ≠ D ∧ v = V.ref q ∧ H1 q = some (.tup [.str r.1, .str r.2])) rs acc → ∃ ps : List Addr, acc = ps.map V.ref ∧ Paired (fun p (r : Str × Str) => H1 p = some (.tup [.str r.1, .str r.2])) ps rs := by
      intro rs acc hp
      induction hp with
      | nil => exact ⟨[], rfl, .nil⟩
      | cons r t ih =>
        obtain ⟨q, _, rfl, z3⟩ := r
        obtain ⟨ps, rfl, hps⟩ := ih
        exact ⟨q :: ps, rfl, .cons z3 hps⟩
    obtain ⟨ps, rfl, hps⟩ := this hp
    exact ⟨ps, hd, hps⟩
theorem scVCourse : FnScope ["self", "weir"] ["self", "weir"] (defScope sVCourse) := ⟨rfl, rfl, rfl, by decide +kernel, rfl, by decide +kernel, by decide +kernel⟩
/-- self.need(x) -/
theorem ev_vNeed {σ : L2.St} {H : Hp} {ta te : TE} {p : Addr} {x : Str} {rows : List (Str × Str)} {E : XK} (ho : Ev ta σ H (.ref p)) (hx : Ev te σ H (.str x)) (hR : RivAt A H p rows) (hm : x ∈ rows.map (·.1)) : Ev (tMeth A.cV "need" (spVNeed A) [] E ta (tCons te tNil)) σ H .non := by
  obtain ⟨dx, aw, al, ac, kc, h1, _⟩ := id hR
  refine ep_to (ep_meth ho h1 (flV_need _ _ _) (ea_p (ea_cons hx ea_nil)) fun vs H1 e1 hvs Q q => ?_)
  subst hvs
  exact ⟨p, x, rows, rfl, hR.ex e1, hm, fun H2 e2 => q .non H2 e2 rfl⟩
theorem ok_vCourse (T : Txt K mg A) : FnOk P w K mg base CX0 2 A.fVCourse A.dVCourse ["self", "weir"] (spVCourse A) := by
  have GN : FnOk P w K mg base CX0 1 A.fVNeed A.dVNeed ["self", "weir"] (spVNeed A) := ok_vNeed T
  refine T.fnVCourse.ok scVCourse (fun vs H Q E h => ?_) (fun cdv AA outer s H vs Q E hr h => ?_)
  · obtain ⟨p, x, rows, rfl, _⟩ := h
    rfl
  · obtain ⟨p, x, rows, rfl, hR, hx, k⟩ := h
    have hu := hu_of hr
    obtain ⟨dx, aw, al, ac, kc, h1, h2, h3, h4, h5⟩ := id hR
    refine ⟨_, pss_cons (ps_expr (pe_meth (pv 0) T.clV T.mtVNeed GN hr T.bdVNeed .nil pass0 (pa_cons (pv 1) pa_nil)))
      (pss_one (ps_ret (pe_dget hu (pe_fld (pv 0) rfl) (pv 1) (fun _ _ => rfl)))), ?_⟩
    refine q_drop (ev_vNeed (ev_var rfl) (ev_var rfl) hR hx) fun H1 e1 => ?_
    obtain ⟨v, hv, hq⟩ := h5.get hx
    exact s_ret (ev_dget (k := Sum.inr x) (ev_fld (ev_var rfl) (e1 _ _ h1) T.clV T.nV_courses (flV_c _ _ _)) (ev_var rfl) (.inl (e1 _ _ h4)) hv) fun H2 e2 => k _ H2 (e1.trans e2) (hq.ex (e1.trans e2)).t
theorem scVDepth : FnScope ["self", "weir"] ["self", "weir"] (defScope sVDepth) := ⟨rfl, rfl, rfl, by decide +kernel, rfl, by decide +kernel, by decide +kernel⟩
theorem ok_vDepth (T : Txt K mg A) : FnOk P w K mg base CX0 3 A.fVDepth A.dVDepth ["self", "weir"] (spVDepth A) := by
  have GC : FnOk P w K mg base CX0 2 A.fVCourse A.dVCourse ["self", "weir"] (spVCourse A) := ok_vCourse T
  refine T.fnVDepth.ok scVDepth (fun vs H Q E h => ?_) (fun cdv AA outer s H vs Q E hr h => ?_)
  · obtain ⟨p, x, rows, rfl, _⟩ := h
    rfl
  · obtain ⟨p, x, rows, rfl, hR, hx, k⟩ := h
    obtain ⟨dx, aw, al, ac, kc, h1, h2, h3, h4, h5⟩ := id hR
    refine ⟨_, pss_one (ps_ret (pe_callB call_len_seq (by rfl) T.b_len PySem.boot_len (pa_cons (pe_meth (pv 0) T.clV T.mtVCourse GC hr T.bdVCourse .nil pass0 (pa_cons (pv 1) pa_nil)) pa_nil))), ?_⟩
    refine s_ret (v := .int (depth sea rows x)) (ev_lenP ?_) fun H1 e1 => k H1 e1
    refine (ep_meth (P := IsT (course sea rows x)) (ev_var rfl) h1 (flV_course _ _ _) (ea_p (ea_cons (ev_var rfl) ea_nil)) fun vs H1 e1 hvs Q q => ?_).imp fun v H' eX z => let ⟨q, z1, z2⟩ := z.sq (K := K); ⟨q, _, z1, .inr z2, by simp [depth]⟩
    subst hvs
    exact ⟨p, x, rows, rfl, hR.ex e1, hx, q⟩
theorem scVIsDown : FnScope ["self", "high", "low"] ["self", "high", "low"] (defScope sVIsDown) := ⟨rfl, rfl, rfl, by decide +kernel, rfl, by decide +kernel, by decide +kernel⟩
theorem ok_vIsDown (T : Txt K mg A) : FnOk P w K mg base CX0 2 A.fVIsDown A.dVIsDown ["self", "high", "low"] (spVIsDown A) := by
  have GN : FnOk P w K mg base CX0 1 A.fVNeed A.dVNeed ["self", "weir"] (spVNeed A) := ok_vNeed T
  refine T.fnVIsDown.ok scVIsDown (fun vs H Q E h => ?_) (fun cdv AA outer s H vs Q E hr h => ?_)
  · obtain ⟨p, x, y, rows, rfl, _⟩ := h
    rfl
  · obtain ⟨p, x, y, rows, rfl, hR, hx, hy, k⟩ := h
    have hu := hu_of hr
    obtain ⟨dx, aw, al, ac, kc, h1, h2, h3, h4, h5⟩ := id hR
    refine ⟨_, pss_cons (ps_expr (pe_meth (pv 0) T.clV T.mtVNeed GN hr T.bdVNeed .nil pass0 (pa_cons (pv 1) pa_nil)))
      (pss_cons (ps_expr (pe_meth (pv 0) T.clV T.mtVNeed GN hr T.bdVNeed .nil pass0 (pa_cons (pv 2) pa_nil)))
      (pss_one (ps_ret (pe_cmpR op_in_seq (pv 2) (pe_dget hu (pe_fld (pv 0) rfl) (pv 1) (fun _ _ => rfl)) rfl)))), ?_⟩
    refine q_drop (ev_vNeed (ev_var rfl) (ev_var rfl) hR hx) fun H1 e1 => ?_
    refine q_drop (ev_vNeed (ev_var rfl) (ev_var rfl) (hR.ex e1) hy) fun H2 e2 => ?_
    obtain ⟨v, hv, q, o, rfl, hq, _⟩ := h5.get hx
    have e12 := e1.trans e2
    exact s_ret (ev_inT (ev_var rfl) (ev_dget (k := Sum.inr x) (ev_fld (ev_var rfl) (e12 _ _ h1) T.clV T.nV_courses (flV_c _ _ _)) (ev_var rfl) (.inl (e12 _ _ h4)) hv) (.inl (.inr ⟨o, e12 _ _ hq⟩)) rfl) fun H3 e3 => k H3 (e12.trans e3)
theorem scVWay : FnScope ["self", "intake", "last", "course"] ["self", "intake", "last"] (defScope sVWay) := ⟨rfl, rfl, rfl, by decide +kernel, rfl, by decide +kernel, by decide +kernel⟩
theorem ok_vWay (T : Txt K mg A) : FnOk P w K mg base CX0 2 A.fVWay A.dVWay ["self", "intake", "last"] (spVWay A) := by
  have GN : FnOk P w K mg base CX0 1 A.fVNeed A.dVNeed ["self", "weir"] (spVNeed A) := ok_vNeed T
  refine T.fnVWay.ok scVWay (fun vs H Q E h => ?_) (fun cdv AA outer s H vs Q E hr h => ?_)
  · obtain ⟨p, x, y, rows, rfl, _⟩ := h
    rfl
  · obtain ⟨p, x, y, rows, rfl, hR, hok, hx, hy, k⟩ := h
    have hu := hu_of hr
    have G := hok.good
    obtain ⟨dx, aw, al, ac, kc, h1, h2, h3, h4, h5⟩ := id hR
    refine ⟨_, pss_cons (ps_expr (pe_meth (pv 0) T.clV T.mtVNeed GN hr T.bdVNeed .nil pass0 (pa_cons (pv 1) pa_nil)))
      (pss_cons (ps_set (i := 3) scVWay.nd rfl (.inl rfl) (pe_dget hu (pe_fld (pv 0) rfl) (pv 1) (fun _ _ => rfl)))
      (pss_cons (ps_if (pt_cmpR op_eq (pv 2) pe_str (nomark _)) (pss_one (ps_ret (pv 3))) pss_nil)
      (pss_cons (ps_expr (pe_meth (pv 0) T.clV T.mtVNeed GN hr T.bdVNeed .nil pass0 (pa_cons (pv 2) pa_nil)))
      (pss_cons (ps_if (pt_cmpR op_notIn_seq (pv 2) (pv 3) rfl) (pss_one ps_never) pss_nil)
      (pss_one (ps_ret (pe_slice sl_tupA (pv 3) po_none (po_some (pe_op op_add (pe_bmT PySem.F.plainAttrs_tuple PySem.F.slot_tuple_index PySem.F.type_tuple_index mt_tup_index (pv 3) (pa_cons (pv 2) pa_nil)) pe_int))))))))), ?_⟩
    refine q_drop (ev_vNeed (ev_var rfl) (ev_var rfl) hR hx) fun H1 e1 => ?_
    obtain ⟨v, hv, q, o, rfl, hq, oc, od⟩ := h5.get hx
    refine q_asg (ev_dget (k := Sum.inr x) (ev_fld (ev_var rfl) (e1 _ _ h1) T.clV T.nV_courses (flV_c _ _ _)) (ev_var rfl) (.inl (e1 _ _ h4)) hv) fun H2 e2 => ?_
    have e12 := e1.trans e2
    by_cases hs : y = sea
    · refine q_when (b := true) (et_test (ev_eqS (ev_var rfl) ev_c (decide_eq_true hs))) (fun _ H3 e3 => s_ret (ev_var (v := .ref q) rfl) fun H4 e4 => ?_) (fun h => nomatch h)
      refine k _ H4 (e12.trans (e3.trans e4)) ⟨q, rfl, ?_⟩
      unfold way
      rw [if_pos hs]
      exact .inr ⟨o, (e12.trans (e3.trans e4)) _ _ hq⟩
    · have hyc : y ∈ course sea rows x := hy.resolve_left hs
      have hyw : y ∈ rows.map (·.1) := IsPath.mem (x := x) (G.path hx) y hyc
      refine q_when (b := false) (et_test (ev_eqS (ev_var rfl) ev_c (decide_eq_false hs))) (fun h => nomatch h) (fun _ H3 e3 => ?_)
      have e13 := e12.trans e3
      refine q_drop (ev_vNeed (ev_var rfl) (ev_var rfl) (hR.ex e13) hyw) fun H4 e4 => ?_
      have e14 := e13.trans e4
      refine q_when (b := false) (et_test (ev_notInT (ev_var rfl) (ev_var rfl) (.inl (.inr ⟨o, e14 _ _ hq⟩)) (by rw [decide_eq_true hyc]; rfl))) (fun h => nomatch h) (fun _ H5 e5 => ?_)
      have e15 := e14.trans e5
      obtain ⟨pre, post, ec, ei, eo⟩ := take_idx hyc
      -- course[:course.index(last) + 1]
      have hj : (course sea rows x)[pre.length]? = some y := by rw [ec]; simp
      have hno : ∀ m, m < pre.length → (course sea rows x)[m]? ≠ some y := fun m hm e => by
        rw [ec, List.getElem?_append_left hm] at e
        exact eo (List.mem_of_getElem? e)
      have hlen : (course sea rows x).length = pre.length + (post.length + 1) := by rw [ec]; simp
      have hsq : SqT K H5 q ((course sea rows x).map V.str) := .inl (.inr ⟨o, e15 _ _ hq⟩)
      refine ⟨_, rfl, _, rfl, ⟨q, o, _, rfl, e15 _ _ hq, oc, od⟩, _, rfl, q, course sea rows x, y, pre.length, rfl, rfl, hsq, hj, hno, _, _, rfl, rfl, _, rfl, q, _, rfl, hsq, ?_, ?_⟩
      all_goals
        have hcut : cutV ((course sea rows x).map V.str) none (some ((pre.length : Int) + 1)) = (way sea rows x y).map V.str := by
          have e1 : ((pre.length : Int) + 1) = ((pre.length + 1 : Nat) : Int) := by simp
          unfold cutV way
          rw [e1, HT.sIx_nat, HT.sIx_none, if_neg hs, ei, List.drop_zero, Nat.sub_zero, Nat.min_eq_left (by rw [List.length_map, hlen]; omega), List.map_take]
      · rintro ⟨_, hw⟩
        have e1 : ((pre.length : Int) + 1) = ((pre.length + 1 : Nat) : Int) := by simp
        rw [e1, HT.sIx_nat, Nat.min_eq_left (by rw [List.length_map, hlen]; omega), List.length_map] at hw
        refine k _ H5 e15 ⟨q, rfl, ?_⟩
        unfold way
        rw [if_neg hs, ei, List.take_of_length_le (by omega)]
        exact .inr ⟨o, e15 _ _ hq⟩
      · intro _ p' hp'
        refine k _ _ (e15.trans (Ex.new hp')) ⟨p', rfl, ?_⟩
        exact .inl (by rw [upd_same, hcut])
end
end Wk

/-! is_wrong_right, rights_fault -/
namespace Wk
open PySem L2 Evl
/-- a list of triples of texts -/
def RghAt (H : Hp) (a : Addr) (rts : List (Str × Str × Str)) : Prop := ∃ ps : List Addr, H a = some (.lst (ps.map V.ref)) ∧ Paired (fun p (r : Str × Str × Str) => H p = some (.tup [.str r.1, .str r.2.1, .str r.2.2])) ps rts
theorem RghAt.ex {H H' : Hp} {a : Addr} {rts : List (Str × Str × Str)} (e : Ex H H') (h : RghAt H a rts) : RghAt H' a rts := by
  obtain ⟨ps, h1, h2⟩ := h
  exact ⟨ps, e _ _ h1, Paired.mapP h2 fun p r q => e _ _ q⟩
/-- what the law's maker gives: rights whose names are names -/
structure RightsOk (rows : List (Str × Str)) (rts : List (Str × Str × Str)) : Prop where
  good : GoodRights sea rows rts
  most : rts.length ≤ 40
  nm : ∀ r ∈ rts, IsNm r.1
def spWrongRight (A : Adr) : Sp := fun vs H Q _ => ∃ (r a d : Addr) (rows : List (Str × Str)) (n i l : Str) (kvs : List (Key × V)), vs = [.ref r, .ref a, .ref d] ∧ RivAt A H r rows ∧ H a = some (.tup [.str n, .str i, .str l]) ∧ IsNm n ∧ i ∈ rows.map (·.1) ∧ (l = sea ∨ l ∈ rows.map (·.1)) ∧
  H d = some (.dK kvs) ∧ valV kvs (Sum.inr n : Key) = none ∧ RetV (.bl false) H Q
def spRtsFault (A : Adr) : Sp := fun vs H Q _ => ∃ (r a : Addr) (rows : List (Str × Str)) (rts : List (Str × Str × Str)), vs = [.ref r, .ref a] ∧ RivAt A H r rows ∧ RiverOk rows ∧ RghAt H a rts ∧ RightsOk rows rts ∧ RetV .non H Q
/-- the names told so far -/
def erlKV (rts : List (Str × Str × Str)) : List (Key × V) := rts.map fun r => (Sum.inr r.1, V.bl true)
theorem erlKV_keys (rts : List (Str × Str × Str)) : (erlKV rts).map (·.1) = (nms rts).map Sum.inr := by
  unfold erlKV nms
  rw [List.map_map, List.map_map]
  rfl
theorem erlKV_none {rts : List (Str × Str × Str)} {x : Str} (h : x ∉ nms rts) : valV (erlKV rts) (Sum.inr x : Key) = none := by
  refine valV_out ?_
  rw [erlKV_keys]
  intro z
  obtain ⟨u, hu, e⟩ := List.mem_map.mp z
  cases e
  exact h hu
theorem erlKV_snoc (rts : List (Str × Str × Str)) {r : Str × Str × Str} (h : r.1 ∉ nms rts) : putK (erlKV rts) (Sum.inr r.1 : Key) (.bl true) = erlKV (rts ++ [r]) := by
  rw [putK_end]
  · unfold erlKV
    rw [List.map_append]
    rfl
  · rw [erlKV_keys]
    intro z
    obtain ⟨u, hu, e⟩ := List.mem_map.mp z
    cases e
    exact h hu
section
variable {P : Program} {w : World} {K : PySem.W.Frag} {mg : Str → Option Value} {base : Heap} {A : Adr}
theorem scWrongRight : FnScope ["river", "entry", "earlier", "name", "intake", "last"] ["river", "entry", "earlier"] (defScope sWrongRight) := ⟨rfl, rfl, rfl, by decide +kernel, rfl, by decide +kernel, by decide +kernel⟩
theorem ok_wrongRight (T : Txt K mg A) : FnOk P w K mg base CX0 2 A.fWrongRight A.dWrongRight ["river", "entry", "earlier"] (spWrongRight A) := by
  have GN : FnOk P w K mg base CX0 1 A.fIsName A.dIsName ["value"] spIsName := ok_isName T
  refine T.fnWrongRight.ok scWrongRight (fun vs H Q E h => ?_) (fun cdv AA outer s H vs Q E hr h => ?_)
  · obtain ⟨r, a, d, rows, n, i, l, kvs, rfl, _⟩ := h
    rfl
  · obtain ⟨r, a, d, rows, n, i, l, kvs, rfl, hR, ha, hn, hi, hl, hd, hv, k⟩ := h
    have hu := hu_of hr
    obtain ⟨dx, aw, al, ac, kc, h1, h2, h3, h4, h5⟩ := id hR
    refine ⟨_, pss_cons (ps_if (PW.pt (pw_or (pt_not (pt_val (pe_callB call_isi (by rfl) T.b_isinstance (by decide +kernel) (pa_cons (pv 1) (pa_cons (pe_bltn (v := .ty "tuple") (by rfl) T.b_tuple (by decide +kernel) rfl) pa_nil)))))
        (pw_or1 (pt_cmpR op_ne (pe_callB call_len_seq (by rfl) T.b_len PySem.boot_len (pa_cons (pv 1) pa_nil)) pe_int (nomark _))))) (pss_one (ps_ret pe_bl)) pss_nil)
      (pss_cons (ps_asg (pv 1) (pg_tup rfl (pgs_cons (pg_name (i := 3) scWrongRight.nd rfl (.inl rfl)) (pgs_cons (pg_name (i := 4) scWrongRight.nd rfl (.inl rfl)) (pgs_cons (pg_name (i := 5) scWrongRight.nd rfl (.inl rfl)) pgs_nil)))))
      (pss_cons (ps_if (PW.pt (pw_or (pt_not (pt_val (pe_call GN hr rfl T.mgIsName T.fnIsName.kp T.bdIsName .nil pass0 (pa_cons (pv 3) pa_nil))))
        (pw_or (pt_cmp (pc_din hu (pv 3) (pv 2))) (pw_or1 (pt_cmpR op_notIn_seq (pv 4) (pe_fld (pv 0) rfl) rfl))))) (pss_one (ps_ret pe_bl)) pss_nil)
      (pss_one (ps_ret (pe_and (pe_cmpR op_ne (pv 5) pe_str (nomark _)) (pe_one (pe_cmpR op_notIn_seq (pv 5) (pe_fld (pv 0) rfl) rfl))))))), ?_⟩
    refine q_when (b := false) (et_or (a := false) (b := false) (et_not (a := true) (et_B (ev_isi (ea_cons (ev_var rfl) (ea_cons ev_c ea_nil)) (fun H1 e => .base (.tup (e _ _ ha))) (kit_ty (by decide +kernel)))))
      fun _ => et_test (ev_neI (ev_lenSq (ea_cons (ev_var rfl) ea_nil) (.inr (st_of ha))) ev_c rfl)) (fun h => nomatch h) (fun _ H1 e1 => ?_)
    refine ⟨_, rfl, g_triple (st_of (e1 _ _ ha)) ?_⟩
    refine q_when (b := false) (et_or (a := false) (b := false) (et_not (a := true) (et_B (ev_call (ea_cons (ev_var rfl) ea_nil) fun H2 e Q q E => ⟨n, rfl, hn, q⟩))) fun _ =>
      et_or (a := false) (b := false) (et_B (ev_din (k := Sum.inr n) (ev_var rfl) (ev_var rfl) (.inl (e1 _ _ hd)) (by rw [hv]; rfl))) fun _ =>
        et_test (ev_notInT (ev_var rfl) (ev_fld (ev_var rfl) (e1 _ _ h1) T.clV T.nV_weirs (flV_w _ _ _)) (st_of (e1 _ _ h2)) (by rw [decide_eq_true hi]; rfl))) (fun h => nomatch h) (fun _ H2 e2 => ?_)
    have e12 := e1.trans e2
    by_cases hs : l = sea
    · exact s_ret (ev_andV (a := false) (b := false) (ev_neS (ev_var rfl) ev_c (by rw [decide_eq_true hs]; rfl)) (fun h => nomatch h)) fun H3 e3 => k H3 (e12.trans e3)
    · have hw : l ∈ rows.map (·.1) := hl.resolve_left hs
      exact s_ret (ev_andV (a := true) (b := false) (ev_neS (ev_var rfl) ev_c (by rw [decide_eq_false hs]; rfl)) (fun _ => ev_notInT (ev_var rfl) (ev_fld (ev_var rfl) (e12 _ _ h1) T.clV T.nV_weirs (flV_w _ _ _)) (st_of (e12 _ _ h2)) (by rw [decide_eq_true hw]; rfl))) fun H3 e3 => k H3 (e12.trans e3)
theorem scRtsFault : FnScope ["river", "rows", "earlier", "place", "entry"] ["river", "rows"] (defScope sRtsFault) := ⟨rfl, rfl, rfl, by decide +kernel, rfl, by decide +kernel, by decide +kernel⟩
theorem ok_rtsFault (T : Txt K mg A) : FnOk P w K mg base CX0 3 A.fRtsFault A.dRtsFault ["river", "rows"] (spRtsFault A) := by
  have GW : FnOk P w K mg base CX0 2 A.fWrongRight A.dWrongRight ["river", "entry", "earlier"] (spWrongRight A) := ok_wrongRight T
  have GD : FnOk P w K mg base CX0 2 A.fVIsDown A.dVIsDown ["self", "high", "low"] (spVIsDown A) := ok_vIsDown T
  refine T.fnRtsFault.ok scRtsFault (fun vs H Q E h => ?_) (fun cdv AA outer s H vs Q E hr h => ?_)
  · obtain ⟨r, a, rows, rts, rfl, _⟩ := h
    rfl
  · obtain ⟨r, a, rows, rts, rfl, hR, hrok, hA, hok, k⟩ := h
    obtain ⟨tM, hM⟩ := T.mgMR
    have hu := hu_of hr
    obtain ⟨ps, ha, hps⟩ := id hA
    obtain ⟨dx, aw, al, ac, kc, h1, h2, h3, h4, h5⟩ := id hR
    have hlen : ps.length = rts.length := paired_len hps
    have hm := hok.most
    have G := hrok.good
    refine ⟨_, pss_cons (ps_if (PW.pt (pw_or (pt_not (pt_val (pe_callB call_isi (by rfl) T.b_isinstance (by decide +kernel) (pa_cons (pv 1) (pa_cons (pe_bltn (v := .ty "list") (by rfl) T.b_list (by decide +kernel) rfl) pa_nil)))))
        (pw_or1 (pt_cmpR op_gt (pe_callB call_len_seq (by rfl) T.b_len PySem.boot_len (pa_cons (pv 1) pa_nil)) (pe_glob (v := .int 40) rfl hM ⟨_, rfl⟩) (nomark _))))) (pss_one (ps_ret (pe_un un_neg pe_int))) pss_nil)
      (pss_cons (ps_set (i := 2) scRtsFault.nd rfl (.inl rfl) pe_dnewK)
      (pss_cons (ps_for PassesOwn.never rfl (pi_enum (by rfl) T.b_enumerate (pa_cons (pv 1) pa_nil)) (pg_tup rfl (pgs_cons (pg_name (i := 3) scRtsFault.nd rfl (.inl rfl)) (pgs_cons (pg_name (i := 4) scRtsFault.nd rfl (.inl rfl)) pgs_nil)))
        (pss_cons (ps_if (pt_val (pe_call GW hr rfl T.mgWrongRight T.fnWrongRight.kp T.bdWrongRight .nil pass0 (pa_cons (pv 0) (pa_cons (pv 4) (pa_cons (pv 2) pa_nil))))) (pss_one (ps_ret (pv 3))) pss_nil)
        (pss_one (ps_dput hu (pv 2) (pe_ix ix_tup (pv 4) pe_int (fun _ _ => rfl)) pe_bl rfl))))
      (pss_cons (ps_for PassesOwn.never rfl (pi_enum (by rfl) T.b_enumerate (pa_cons (pv 1) pa_nil)) (pg_tup rfl (pgs_cons (pg_name (i := 3) scRtsFault.nd rfl (.inl rfl)) (pgs_cons (pg_name (i := 4) scRtsFault.nd rfl (.inl rfl)) pgs_nil)))
        (pss_one (ps_if (PW.pt (pw_and (pt_cmpR op_ne (pe_ix ix_tup (pv 4) pe_int (fun _ _ => rfl)) pe_str (nomark _)) (pw_and1 (pt_not (pt_val (pe_meth (pv 0) T.clV T.mtVIsDown GD hr T.bdVIsDown .nil pass0 (pa_cons (pe_ix ix_tup (pv 4) pe_int (fun _ _ => rfl)) (pa_cons (pe_ix ix_tup (pv 4) pe_int (fun _ _ => rfl)) pa_nil)))))))) (pss_one (ps_ret (pv 3))) pss_nil)))
      (pss_one (ps_ret pe_non))))), ?_⟩
    refine q_when (b := false) (et_or (a := false) (b := false) (et_not (a := true) (et_B (ev_isi (ea_cons (ev_var rfl) (ea_cons ev_c ea_nil)) (fun H1 e => .base (.lst (e _ _ ha))) (kit_ty (by decide +kernel)))))
      fun _ => et_test (ev_cmpI (f := fun i j => decide (j < i)) (ev_lenSq (ea_cons (ev_var rfl) ea_nil) (.inl (sq_of ha))) ev_c (by simp; omega))) (fun h => nomatch h) (fun _ H1 e1 => ?_)
    show ∀ d, H1 d = none → _
    intro d nd1
    have nd : H d = none := fresh_back e1 nd1
    have ent : ∀ {i : Nat} {x : V}, (ps.map V.ref)[i]? = some x → ∃ p r, x = .ref p ∧ rts[i]? = some r ∧ H p = some (.tup [.str r.1, .str r.2.1, .str r.2.2]) := fun {i x} hx => by
      obtain ⟨p, rfl, hp⟩ := refs_get hx
      obtain ⟨r, hr1, hr2⟩ := paired_get hps hp
      exact ⟨p, r, rfl, hr1, hr2⟩
    have lastOk : ∀ r' ∈ rts, r'.2.2 = sea ∨ r'.2.2 ∈ rows.map (·.1) := fun r' hr' => ((hok.good.ok r' hr').2).imp id fun z => IsPath.mem (x := r'.2.2) (G.path (hok.good.ok r' hr').1) _ z
    refine q_forE (ea_cons (ev_var rfl) ea_nil) (sq_of (by rw [upd_ne (ne_of_none (e1 _ _ ha) nd1)]; exact e1 _ _ ha))
      (fun i σ' H' => ∃ (v2 v3 : Option V), σ' = [some (.ref r), some (.ref a), some (.ref d), v2, v3] ∧ Ex H H' ∧ H' d = some (.dK (erlKV (rts.take i))))
      (fun H2 e2 => ⟨none, none, rfl, (Ex.mut e1 nd).trans e2, e2 _ _ upd_same⟩) (fun i σ' H' _ ⟨_, _, _, e, _⟩ => sq_of (e _ _ ha)) ?_ ?_
    · rintro i x σ' H' TT hx ⟨v2, v3, rfl, e2, hd⟩ hT
      obtain ⟨p, q, rfl, hri, hp⟩ := ent hx
      have hrm : q ∈ rts := List.mem_of_getElem? hri
      obtain ⟨hout, htk⟩ := take_out (f := fun r : Str × Str × Str => r.1) hok.good.nd hri
      have e3 : Ex H (upd H' TT (.tup [.int (i : Nat), .ref p])) := e2.trans (Ex.new hT)
      have hd3 : (upd H' TT (.tup [.int (i : Nat), .ref p])) d = some (.dK (erlKV (rts.take i))) := by rw [upd_ne (ne_of_none hd hT)]; exact hd
      refine g_pair (st_of upd_same) ?_
      refine q_when (b := false) (et_B (ev_call (ea_cons (ev_var rfl) (ea_cons (ev_var rfl) (ea_cons (ev_var rfl) ea_nil))) fun H4 e4 Q' q' E' => ⟨r, p, d, rows, q.1, q.2.1, q.2.2, _, rfl, hR.ex (e3.trans e4), (e3.trans e4) _ _ hp, hok.nm q hrm, (hok.good.ok q hrm).1, lastOk q hrm, e4 _ _ hd3, erlKV_none hout, q'⟩)) (fun h => nomatch h) (fun _ H4 e4 => ?_)
      have e5 := e3.trans e4
      refine (ev_c (v := .bl true)) H4 (Ex.refl _) _ fun H5 e6 => ?_
      refine (ev_var (v := .ref d) rfl) H5 (Ex.refl _) _ fun H6 e7 => ?_
      refine (ev_ixT (v := .str q.1) (ev_var rfl) ev_c (st_of ((e5.trans (e6.trans e7)) _ _ hp)) (at_nat (n := 0) rfl)) H6 (Ex.refl _) _ fun H7 e8 => ?_
      have hd7 : H7 d = some (.dK (erlKV (rts.take i))) := (e4.trans ((e6.trans e7).trans e8)) _ _ hd3
      refine ⟨d, _, rfl, DPut.k (k := Sum.inr q.1) hd7 (small1000 (by unfold erlKV; simp; omega)), ?_⟩
      exact ⟨_, _, rfl, Ex.mut (e5.trans ((e6.trans e7).trans e8)) nd, by rw [upd_same, erlKV_snoc _ hout, htk]⟩
    · rintro σ' H' ⟨v2, v3, rfl, e2, hd⟩
      refine q_forE (ea_cons (ev_var rfl) ea_nil) (sq_of (e2 _ _ ha)) (fun i σ' H'' => ∃ (v2 v3 : Option V), σ' = [some (.ref r), some (.ref a), some (.ref d), v2, v3] ∧ Ex H' H'')
        (fun H2 e3 => ⟨v2, v3, rfl, e3⟩) (fun i σ' H'' _ ⟨_, _, _, e⟩ => sq_of ((e2.trans e) _ _ ha)) ?_ ?_
      · rintro i x σ' H'' TT hx ⟨v2, v3, rfl, e3⟩ hT
        obtain ⟨p, q, rfl, hri, hp⟩ := ent hx
        have hrm : q ∈ rts := List.mem_of_getElem? hri
        have e4 : Ex H' (upd H'' TT (.tup [.int (i : Nat), .ref p])) := e3.trans (Ex.new hT)
        refine g_pair (st_of upd_same) ?_
        have hpp := (e2.trans e4) _ _ hp
        refine s_when (b := false) ?_ (fun h => nomatch h) (fun _ H5 e5 => ⟨_, _, rfl, e4.trans e5⟩)
        have t1 : EvT (tTest (tOp rNe (tOp (rIxT K) (tVar 4) (tC (.int 2))) (tC (.str sea)))) [some (.ref r), some (.ref a), some (.ref d), some (.int (i : Nat)), some (.ref p)] (upd H'' TT (.tup [.int (i : Nat), .ref p])) (!decide (q.2.2 = sea)) := et_test (ev_neS (ev_ixT (v := .str q.2.2) (ev_var rfl) ev_c (st_of hpp) (at_nat (n := 2) rfl)) ev_c rfl)
        refine et_is (et_and (b := false) t1 fun hns => et_not (a := true) (et_B ?_)) (Bool.and_false _)
        have hns' : q.2.2 ≠ sea := by simpa using hns
        have hdn : q.2.2 ∈ course sea rows q.2.1 := ((hok.good.ok q hrm).2).resolve_left hns'
        have hRx := hR.ex (e2.trans e4)
        refine ep_to (ep_meth (ev_var rfl) ((e2.trans e4) _ _ h1) (flV_down _ _ _) (ea_p (ea_cons (ev_ixT (v := .str q.2.1) (ev_var rfl) ev_c (st_of hpp) (at_nat (n := 1) rfl)) (ea_cons (ev_ixT (v := .str q.2.2) (ev_var rfl) ev_c (st_of hpp) (at_nat (n := 2) rfl)) ea_nil))) fun vs H6 e6 hvs Q' q' => ?_)
        subst hvs
        refine ⟨r, q.2.1, q.2.2, rows, rfl, hRx.ex e6, (hok.good.ok q hrm).1, (lastOk q hrm).resolve_left hns', fun H7 e7 => ?_⟩
        rw [decide_eq_true hdn]
        exact q' _ _ e7 rfl
      · rintro σ' H'' ⟨v2, v3, rfl, e3⟩
        exact s_ret ev_c fun H5 e5 => k H5 (e2.trans (e3.trans e5))
end
end Wk

/-! Rights.__init__ -/
namespace Wk
open PySem L2 Evl
/-! a way has no weir twice -/
theorem path_falls {rows : List (Str × Str)} (G : GoodRiver sea rows) : ∀ {c : List Str} {x : Str}, x ∈ rows.map (·.1) ∨ c = [] → IsPath sea rows x c → c.Nodup ∧ ∀ y ∈ c, (course sea rows y).length ≤ c.length
  | [], _, _, _ => ⟨List.nodup_nil, fun y h => absurd h (by simp)⟩
  | z :: r, x, hx, h => by
    have hx : x ∈ rows.map (·.1) := hx.resolve_right (by simp)
    have e : course sea rows x = z :: r := (G.path hx).inj h
    have ih := path_falls G (c := r) (x := low sea rows x) (by
      cases r with
      | nil => exact .inr rfl
      | cons u t => exact .inl (List.mem_map.mpr ⟨_, h.2.2.2.2.2.1, rfl⟩)) h.2.2.2
    have hz : z = x := h.1
    refine ⟨List.nodup_cons.mpr ⟨fun hm => ?_, ih.1⟩, fun y hy => ?_⟩
    · have := ih.2 z hm
      rw [hz, e] at this
      simp at this
      omega
    · rcases List.mem_cons.mp hy with rfl | hy
      · rw [hz, e]; exact Nat.le_refl _
      · exact Nat.le_succ_of_le (ih.2 y hy)
theorem way_nodup {rows : List (Str × Str)} (G : GoodRiver sea rows) {i l : Str} (hi : i ∈ rows.map (·.1)) : (way sea rows i l).Nodup := by
  have h := (path_falls G (.inl hi) (G.path hi)).1
  unfold way
  split
  · exact h
  · exact List.Nodup.sublist (List.take_sublist _ _) h
theorem way_len {rows : List (Str × Str)} (G : GoodRiver sea rows) {i l : Str} (hi : i ∈ rows.map (·.1)) : (way sea rows i l).length ≤ rows.length := by
  have h := G.len hi
  unfold way
  split
  · exact h
  · rw [List.length_take]; omega
abbrev wyS (rows : List (Str × Str)) (rts : List (Str × Str × Str)) : Str → List Str := wyOf sea rows rts
theorem wyS_nodup {rows : List (Str × Str)} {rts : List (Str × Str × Str)} (G : GoodRiver sea rows) (R : GoodRights sea rows rts) {x : Str} (h : x ∈ nms rts) : (wyS rows rts x).Nodup := by
  obtain ⟨r, hr, e⟩ := List.mem_map.mp h
  subst e
  unfold wyS
  rw [wyOf_of R hr]
  exact way_nodup G (R.ok r hr).1
theorem wyS_len {rows : List (Str × Str)} {rts : List (Str × Str × Str)} (G : GoodRiver sea rows) (R : GoodRights sea rows rts) {x : Str} (h : x ∈ nms rts) : (wyS rows rts x).length ≤ rows.length := by
  obtain ⟨r, hr, e⟩ := List.mem_map.mp h
  subst e
  unfold wyS
  rw [wyOf_of R hr]
  exact way_len G (R.ok r hr).1

def flR (pr an ae aw as_ : Addr) : List (Str × V) := [("river", .ref pr), ("names", .ref an), ("entries", .ref ae), ("ways", .ref aw), ("stops", .ref as_)]
section
variable (pr an ae aw as_ : Addr)
theorem flR_river : (flR pr an ae aw as_).lookup ("river" : Str) = some (.ref pr) := by unfold flR; kernel_rfl
theorem flR_names : (flR pr an ae aw as_).lookup ("names" : Str) = some (.ref an) := by unfold flR; kernel_rfl
theorem flR_entries : (flR pr an ae aw as_).lookup ("entries" : Str) = some (.ref ae) := by unfold flR; kernel_rfl
theorem flR_ways : (flR pr an ae aw as_).lookup ("ways" : Str) = some (.ref aw) := by unfold flR; kernel_rfl
theorem flR_stops : (flR pr an ae aw as_).lookup ("stops" : Str) = some (.ref as_) := by unfold flR; kernel_rfl
theorem flR_need : (flR pr an ae aw as_).lookup ("need" : Str) = none := by unfold flR; kernel_rfl
theorem flR_rows : (flR pr an ae aw as_).lookup ("rows" : Str) = none := by unfold flR; kernel_rfl
theorem flR_last : (flR pr an ae aw as_).lookup ("last" : Str) = none := by unfold flR; kernel_rfl
theorem flR_way : (flR pr an ae aw as_).lookup ("way" : Str) = none := by unfold flR; kernel_rfl
theorem flR_passing : (flR pr an ae aw as_).lookup ("passing" : Str) = none := by unfold flR; kernel_rfl
def fl1 : List (Str × V) := putF "river" (.ref pr) []
def fl2 : List (Str × V) := putF "names" (.ref an) (fl1 pr)
def fl3 : List (Str × V) := putF "entries" (.ref ae) (fl2 pr an)
def fl4 : List (Str × V) := putF "ways" (.ref aw) (fl3 pr an ae)
theorem fl1_len : (fl1 pr).length < 1000 := by
  have : (fl1 pr).length = 1 := by unfold fl1; kernel_rfl
  omega
theorem fl2_len : (fl2 pr an).length < 1000 := by
  have : (fl2 pr an).length = 2 := by unfold fl2 fl1; kernel_rfl
  omega
theorem fl3_len : (fl3 pr an ae).length < 1000 := by
  have : (fl3 pr an ae).length = 3 := by unfold fl3 fl2 fl1; kernel_rfl
  omega
theorem fl4_len : (fl4 pr an ae aw).length < 1000 := by
  have : (fl4 pr an ae aw).length = 4 := by unfold fl4 fl3 fl2 fl1; kernel_rfl
  omega
theorem fl4_names : (fl4 pr an ae aw).lookup ("names" : Str) = some (.ref an) := by unfold fl4 fl3 fl2 fl1; kernel_rfl
theorem fl4_ways : (fl4 pr an ae aw).lookup ("ways" : Str) = some (.ref aw) := by unfold fl4 fl3 fl2 fl1; kernel_rfl
theorem fl5_eq : putF "stops" (.ref as_) (fl4 pr an ae aw) = flR pr an ae aw as_ := by unfold fl4 fl3 fl2 fl1 flR; kernel_rfl
end
/-- the tuple of the row of a name -/
def IsE (rts : List (Str × Str × Str)) (n : Str) (v : V) (H : Hp) : Prop := ∃ r q, r ∈ rts ∧ r.1 = n ∧ v = .ref q ∧ H q = some (.tup [.str r.1, .str r.2.1, .str r.2.2])
theorem IsE.ex {rts : List (Str × Str × Str)} {n : Str} {v : V} {H H' : Hp} (e : Ex H H') (h : IsE rts n v H) : IsE rts n v H' := by
  obtain ⟨r, q, h1, h2, h3, h4⟩ := h
  exact ⟨r, q, h1, h2, h3, e _ _ h4⟩
/-- a dict of these keys, whatever it tells of them -/
def IsD (ws : List Str) (v : V) (H : Hp) : Prop := ∃ q kk, v = .ref q ∧ H q = some (.dK kk) ∧ kk.map (·.1) = ws.map Sum.inr
theorem IsD.ex {ws : List Str} {v : V} {H H' : Hp} (e : Ex H H') (h : IsD ws v H) : IsD ws v H' := by
  obtain ⟨q, kk, h1, h2, h3⟩ := h
  exact ⟨q, kk, h1, e _ _ h2, h3⟩
theorem keys_has {kk : List (Key × V)} {ws : List Str} (h : kk.map (·.1) = ws.map Sum.inr) (w : Str) : (valV kk (Sum.inr w : Key)).isSome = decide (w ∈ ws) :=
  DOf.has (H := fun _ => none) (P := fun _ _ _ => True) ⟨h, fun _ _ _ => trivial⟩ w
/-- a Rights of these rows on the river of those -/
def RtsAt (A : Adr) (H : Hp) (p : Addr) (rows : List (Str × Str)) (rts : List (Str × Str × Str)) : Prop := ∃ (dx pr an ae aw as_ : Addr) (ke kw ks : List (Key × V)), H p = some (.ins A.cR dx (flR pr an ae aw as_)) ∧ RivAt A H pr rows ∧ H an = some (.tup ((nms rts).map V.str)) ∧
  H ae = some (.dK ke) ∧ DOf H ke (nms rts) (IsE rts) ∧ H aw = some (.dK kw) ∧ DOf H kw (nms rts) (fun n => IsT (wyS rows rts n)) ∧ H as_ = some (.dK ks) ∧ DOf H ks (nms rts) (fun n => IsD (wyS rows rts n))
theorem RtsAt.ex {A : Adr} {H H' : Hp} {p : Addr} {rows : List (Str × Str)} {rts : List (Str × Str × Str)} (e : Ex H H') (h : RtsAt A H p rows rts) : RtsAt A H' p rows rts := by
  obtain ⟨dx, pr, an, ae, aw, as_, ke, kw, ks, h1, h2, h3, h4, h5, h6, h7, h8, h9⟩ := h
  exact ⟨dx, pr, an, ae, aw, as_, ke, kw, ks, e _ _ h1, h2.ex e, e _ _ h3, e _ _ h4, h5.mono fun _ _ z => z.ex e, e _ _ h6, h7.mono fun _ _ z => z.ex e, e _ _ h8, h9.mono fun _ _ z => z.ex e⟩
/-- at p stands an instance, and D is another address: what a tuple, a dict, tells stays when p changes -/
theorem IsT.off {ss : List Str} {v : V} {H H' : Hp} {p C dx : Addr} {fs : List (Str × V)} (hp : H p = some (.ins C dx fs)) (e : ExO p H H') (h : IsT ss v H) : IsT ss v H' := by
  obtain ⟨q, h1, h2⟩ := h
  refine ⟨q, h1, ?_⟩
  rcases h2 with h2 | ⟨o, h2⟩
  · exact .inl (e _ _ (ne_of h2 hp (by intro z; cases z)) h2)
  · exact .inr ⟨o, e _ _ (ne_of h2 hp (by intro z; cases z)) h2⟩
theorem IsC.off {ss : List Str} {v : V} {H H' : Hp} {p C dx : Addr} {fs : List (Str × V)} (hp : H p = some (.ins C dx fs)) (e : ExO p H H') (h : IsC ss v H) : IsC ss v H' := by
  obtain ⟨q, o, h1, h2, h3⟩ := h
  exact ⟨q, o, h1, e _ _ (ne_of h2 hp (by intro z; cases z)) h2, h3⟩
theorem IsE.off {rts : List (Str × Str × Str)} {n : Str} {v : V} {H H' : Hp} {p C dx : Addr} {fs : List (Str × V)} (hp : H p = some (.ins C dx fs)) (e : ExO p H H') (h : IsE rts n v H) : IsE rts n v H' := by
  obtain ⟨r, q, h1, h2, h3, h4⟩ := h
  exact ⟨r, q, h1, h2, h3, e _ _ (ne_of h4 hp (by intro z; cases z)) h4⟩
theorem IsD.off {ws : List Str} {v : V} {H H' : Hp} {p C dx : Addr} {fs : List (Str × V)} (hp : H p = some (.ins C dx fs)) (e : ExO p H H') (h : IsD ws v H) : IsD ws v H' := by
  obtain ⟨q, kk, h1, h2, h3⟩ := h
  exact ⟨q, kk, h1, e _ _ (ne_of h2 hp (by intro z; cases z)) h2, h3⟩
theorem RivAt.off {A : Adr} {H H' : Hp} {p pr : Addr} {rows : List (Str × Str)} {C dx : Addr} {fs : List (Str × V)} (hp : H p = some (.ins C dx fs)) (hn : pr ≠ p) (e : ExO p H H') (h : RivAt A H pr rows) : RivAt A H' pr rows := by
  obtain ⟨dx, aw, al, ac, kc, h1, h2, h3, h4, h5⟩ := h
  exact ⟨dx, aw, al, ac, kc, e _ _ hn h1, e _ _ (ne_of h2 hp (by intro z; cases z)) h2, e _ _ (ne_of h3 hp (by intro z; cases z)) h3, e _ _ (ne_of h4 hp (by intro z; cases z)) h4, h5.mono fun w v z => z.off hp e⟩
def spRInit (A : Adr) : Sp := fun vs H Q _ => ∃ (p dx pr a : Addr) (rows : List (Str × Str)) (rts : List (Str × Str × Str)), vs = [.ref p, .ref pr, .ref a] ∧ H p = some (.ins A.cR dx []) ∧ pr ≠ p ∧ RivAt A H pr rows ∧ RiverOk rows ∧ RghAt H a rts ∧ RightsOk rows rts ∧
  ∀ H', ExO p H H' → RtsAt A H' p rows rts → Q .non H'
section
variable {P : Program} {w : World} {K : PySem.W.Frag} {mg : Str → Option Value} {base : Heap} {A : Adr}
abbrev nRInit : List Str := ["self", "river", "rows", "place", "name", "intake", "last", "entry", "weir"]
theorem scRInit : FnScope nRInit ["self", "river", "rows"] (defScope sRInit) := ⟨rfl, rfl, rfl, by decide +kernel, rfl, by decide +kernel, by decide +kernel⟩
/-- the target name, intake, last -/
abbrev g3 (K : PySem.W.Frag) : TG := gTup K 3 (gCons (gName 4) (gCons (gName 5) (gCons (gName 6) gNil)))
abbrev o3 : List (Str × Nat) := [("name", 4), ("intake", 5), ("last", 6)]
theorem ok_rInit (T : Txt K mg A) : FnOk P w K mg base CX0 4 A.fRInit A.dRInit ["self", "river", "rows"] (spRInit A) := by
  have GF : FnOk P w K mg base CX0 3 A.fRtsFault A.dRtsFault ["river", "rows"] (spRtsFault A) := ok_rtsFault T
  have GW : FnOk P w K mg base CX0 2 A.fVWay A.dVWay ["self", "intake", "last"] (spVWay A) := ok_vWay T
  refine T.fnRInit.ok scRInit (fun vs H Q E h => ?_) (fun cdv AA outer s H vs Q E hr h => ?_)
  · obtain ⟨p, dx, pr, a, rows, rts, rfl, _⟩ := h
    rfl
  · obtain ⟨p, dx, pr, a, rows, rts, rfl, hp, hpp, hR, hrok, hA, hok, k⟩ := h
    have hr2 : Room 2 _ := hr.mono (by decide)
    have hu := hu_of hr
    have G := hrok.good
    have R := hok.good
    have hm := hok.most
    have hmr := hrok.most
    obtain ⟨ps, ha, hps⟩ := id hA
    have hpa : a ≠ p := ne_of ha hp (by intro z; cases z)
    have hlen : ps.length = rts.length := paired_len hps
    have ent : ∀ {i : Nat} {x : V}, (ps.map V.ref)[i]? = some x → ∃ q r, x = .ref q ∧ rts[i]? = some r ∧ H q = some (.tup [.str r.1, .str r.2.1, .str r.2.2]) ∧ q ≠ p := fun {i x} hx => by
      obtain ⟨q, rfl, hq⟩ := refs_get hx
      obtain ⟨r, hr1, hr2⟩ := paired_get hps hq
      exact ⟨q, r, rfl, hr1, hr2, ne_of hr2 hp (by intro z; cases z)⟩
    refine ⟨_, pss_cons (ps_set (i := 3) scRInit.nd rfl (.inl rfl) (pe_call GF hr rfl T.mgRtsFault T.fnRtsFault.kp T.bdRtsFault .nil pass0 (pa_cons (pv 1) (pa_cons (pv 2) pa_nil))))
      (pss_cons (ps_if (pt_cmp (pc_notN (pv 3))) (pss_one ps_never) pss_nil)
      (pss_cons (ps_fld (pv 0) (pv 1) rfl)
      (pss_cons (ps_fld (pv 0) (pe_callTy call_tuple_of (by rfl) T.b_tuple (by decide +kernel) (pa_cons
        (pe_lc (own := o3) (g := g3 K) (tt := tYes) rfl scRInit.nd (pi_list (pv 2)) (blkOk_by (own := o3) (N := nRInit) (sc := defScope sRInit) (by decide +kernel))
          (fun _ _ _ _ _ => pg_tup rfl (pgs_cons (pg_name (i := 4) scRInit.nd rfl (Or.inl rfl)) (pgs_cons (pg_name (i := 5) scRInit.nd rfl (Or.inl rfl)) (pgs_cons (pg_name (i := 6) scRInit.nd rfl (Or.inl rfl)) pgs_nil)))) (fun _ _ _ _ _ => pts_nil) (fun _ _ _ _ _ => pv 4)) pa_nil)) rfl)
      (pss_cons (ps_fld (pv 0) (pe_dc (own := [("entry", 7)]) (g := gName 7) (tt := tYes) (tk := tOp (rIxT K) (tVar 7) (tC (.int 0))) rfl scRInit.nd (pi_list (pv 2)) (blkOk_by (own := [("entry", 7)]) (N := nRInit) (sc := defScope sRInit) (by decide +kernel))
          (fun _ _ _ _ _ => pg_name (i := 7) scRInit.nd rfl (Or.inl rfl)) (fun _ _ _ _ _ => pts_nil) (fun _ _ _ _ _ => pe_ix ix_tup (pv 7) pe_int (fun _ _ => rfl)) (fun _ _ _ _ _ => pv 7)) rfl)
      (pss_cons (ps_fld (pv 0) (pe_dc (own := o3) (g := g3 K) (tt := tYes) (tv := tMeth A.cV "way" (spVWay A) [] E0 (tVar 1) (tCons (tVar 5) (tCons (tVar 6) tNil))) rfl scRInit.nd (pi_list (pv 2)) (blkOk_by (own := o3) (N := nRInit) (sc := defScope sRInit) (by decide +kernel))
          (fun _ _ _ _ _ => pg_tup rfl (pgs_cons (pg_name (i := 4) scRInit.nd rfl (Or.inl rfl)) (pgs_cons (pg_name (i := 5) scRInit.nd rfl (Or.inl rfl)) (pgs_cons (pg_name (i := 6) scRInit.nd rfl (Or.inl rfl)) pgs_nil)))) (fun _ _ _ _ _ => pts_nil) (fun _ _ _ _ _ => pv 4)
          (fun _ _ _ _ _ => pe_meth (pv 1) T.clV T.mtVWay GW hr2 T.bdVWay .nil pass0 (pa_cons (pv 5) (pa_cons (pv 6) pa_nil)))) rfl)
      (pss_one (ps_fld (pv 0) (pe_dc (own := [("name", 4)]) (g := gName 4) (tt := tYes) (tv := tDc (iTup K (tDGet (tFld K (tVar 0) "ways") (tVar 4))) (gName 8) tYes (tVar 8) (tC (.bl true)) [8]) rfl scRInit.nd (pi_tup (pe_fld (pv 0) rfl)) (blkOk_by (own := [("name", 4)]) (N := nRInit) (sc := defScope sRInit) (by decide +kernel))
          (fun _ _ _ _ _ => pg_name (i := 4) scRInit.nd rfl (Or.inl rfl)) (fun _ _ _ _ _ => pts_nil) (fun _ _ _ _ _ => pv 4)
          (fun _ _ _ _ _ => pe_dc (own := [("weir", 8)]) (g := gName 8) (tt := tYes) rfl scRInit.nd (pi_tup (pe_dget hu (pe_fld (pv 0) rfl) (pv 4) (fun _ _ => rfl))) (blkOk_by (by kernel_rfl))
            (fun _ _ _ _ _ => pg_name (i := 8) scRInit.nd rfl (Or.inl rfl)) (fun _ _ _ _ _ => pts_nil) (fun _ _ _ _ _ => pv 8) (fun _ _ _ _ _ => pe_bl))) rfl))))))), ?_⟩
    refine q_asg (v := .non) (ev_call (ea_cons (ev_var rfl) (ea_cons (ev_var rfl) ea_nil)) fun H1 e1 Q' q' E' => ⟨pr, a, rows, rts, rfl, hR.ex e1, hrok, hA.ex e1, hok, q'⟩) fun H1 e1 => ?_
    refine q_when (et_notNone (ev_var rfl)) (fun h => nomatch h) (fun _ H2 e2 => ?_)
    have e12 := e1.trans e2
    have tgt : ∀ {H3 : Hp} {i : Nat} {v : V}, ExO p H H3 → (ps.map V.ref)[i]? = some v → ∃ q r, v = .ref q ∧ rts[i]? = some r ∧ H3 q = some (.tup [.str r.1, .str r.2.1, .str r.2.2]) := fun {H3 i v} e hv => by
      obtain ⟨q, r, h1, h2, h3, h4⟩ := ent hv
      exact ⟨q, r, h1, h2, e _ _ h4 h3⟩
    -- self.river
    refine q_fld (v := .non) (P := fun v _ => v = .ref pr) (p := p) (C := A.cR) (dx := dx) (fs := []) (K := K) (ep_of (ev_var rfl)) (ev_var rfl) (e12 _ _ hp) T.clR T.nR_river (by simp) (fun v1 H3 e3 hv1 => ?_) (fun v _ _ e z => z)
    subst hv1
    show tSeq _ _ _ _ (upd H3 p (.ins A.cR dx (fl1 pr)))
    generalize hH4 : upd H3 p (.ins A.cR dx (fl1 pr)) = H4
    have x4 : ExO p H H4 := by rw [← hH4]; exact (ExO.of (e12.trans e3)).up
    have hp4 : H4 p = some (.ins A.cR dx (fl1 pr)) := by rw [← hH4]; exact upd_same
    have hR4 : RivAt A H4 pr rows := hR.off hp hpp x4
    have ha4 := x4 _ _ hpa ha
    -- self.names
    refine q_fld (v := .non) (P := fun v H' => ∃ q, v = .ref q ∧ H' q = some (.tup ((nms rts).map V.str))) (p := p) (C := A.cR) (dx := dx) (K := K) ?_ (ev_var rfl) hp4 T.clR T.nR_names (fl1_len pr) (fun v2 H5 e5 hv2 => ?_) (fun v _ _ e ⟨q, z1, z2⟩ => ⟨q, z1, e _ _ z2⟩)
    · refine (ep_u (eu_tupOf (lcM rts (fun r => V.str r.1) (src_len (src_list (ev_var rfl) (sq_of ha4)) (by simp [hlen])) (by omega) (fun i r v H6 hri e6 hv => ?_)))).imp fun v H' _ z => ?_
      · obtain ⟨q, r', rfl, hri', hq⟩ := tgt (x4.trans (ExO.of e6)) hv
        rw [hri] at hri'
        cases hri'
        exact ⟨_, tgt_triple (st_of hq) rfl, ev_var rfl⟩
      · obtain ⟨q, h1, h2⟩ := z
        exact ⟨q, h1, by rw [h2]; unfold nms; rw [List.map_map]; rfl⟩
    obtain ⟨an, rfl, hn⟩ := hv2
    have han : an ≠ p := ne_of hn (e5 _ _ hp4) (by intro z; cases z)
    show tSeq _ _ _ _ (upd H5 p (.ins A.cR dx (fl2 pr an)))
    generalize hH6 : upd H5 p (.ins A.cR dx (fl2 pr an)) = H6
    have x6 : ExO p H4 H6 := by rw [← hH6]; exact (ExO.of e5).up
    have hp6 : H6 p = some (.ins A.cR dx (fl2 pr an)) := by rw [← hH6]; exact upd_same
    have hR6 : RivAt A H6 pr rows := hR4.off hp4 hpp x6
    have ha6 := x6 _ _ hpa ha4
    have hn6 : H6 an = some (.tup ((nms rts).map V.str)) := by rw [← hH6, upd_ne han]; exact hn
    -- self.entries
    refine q_fld (v := .non) (P := fun v H' => ∃ q ke, v = .ref q ∧ H' q = some (.dK ke) ∧ DOf H' ke (nms rts) (IsE rts)) (p := p) (C := A.cR) (dx := dx) (K := K) ?_ (ev_var rfl) hp6 T.clR T.nR_entries (fl2_len pr an) (fun v3 H7 e7 hv3 => ?_) (fun v _ _ e ⟨q, ke, z1, z2, z3⟩ => ⟨q, ke, z1, e _ _ z2, z3.mono fun _ _ z => z.ex e⟩)
    · have hd := dcW (wi := iList K (tVar 2)) (g := gName 7) (tk := tOp (rIxT K) (tVar 7) (tC (.int 0))) (te := tVar 7) (vs := [7]) (σ := [some (.ref p), some (.ref pr), some (.ref a), some .non, none, none, none, none, none]) (H := H6) (I := fun i x _ => (ps.map V.ref)[i]? = some x)
        rts (fun r => r.1) R.nd (fun D n v H' => ∃ r q, r ∈ rts ∧ r.1 = n ∧ q ≠ D ∧ v = .ref q ∧ H' q = some (.tup [.str r.1, .str r.2.1, .str r.2.2])) (fun D n b H H' e ⟨r, q, h1, h2, h3, h4, h5⟩ => ⟨r, q, h1, h2, h3, h4, e _ _ h3 h5⟩) (src_len (src_list (ev_var rfl) (sq_of ha6)) (by simp [hlen])) (by omega) (fun i r v H8 D kvs hri e8 hD hv => by
          obtain ⟨q, r', rfl, hri', hq⟩ := tgt ((x4.trans x6).trans (ExO.of e8)) hv
          rw [hri] at hri'
          cases hri'
          refine ⟨_, tgt_name rfl, ev_ixT (ev_var rfl) ev_c (st_of hq) (at_nat (n := 0) rfl), ?_⟩
          exact (ep_of (ev_var rfl)).imp fun v H' e9 hv9 => ⟨r, q, List.mem_of_getElem? hri, rfl, ne_of hq hD (by intro z; cases z), hv9, e9 _ _ hq⟩)
      intro H8 e8 Q8 q8
      exact hd H8 e8 Q8 fun d kvs H9 _ e9 hk ⟨D, hdo⟩ => q8 _ _ e9 ⟨d, kvs, rfl, hk, hdo.1, fun n v m => let ⟨r, q, h1, h2, _, h4, h5⟩ := hdo.2 n v m; ⟨r, q, h1, h2, h4, h5⟩⟩
    obtain ⟨ae, ke, rfl, hE, hEd⟩ := hv3
    have hae : ae ≠ p := ne_of hE (e7 _ _ hp6) (by intro z; cases z)
    show tSeq _ _ _ _ (upd H7 p (.ins A.cR dx (fl3 pr an ae)))
    have x7 : ExO p H7 (upd H7 p (.ins A.cR dx (fl3 pr an ae))) := (ExO.refl _ _).up
    have hEd8 := hEd.mono fun w v z => z.off (e7 _ _ hp6) x7
    have hE8 := x7 _ _ hae hE
    have x8 : ExO p H6 (upd H7 p (.ins A.cR dx (fl3 pr an ae))) := (ExO.of e7).up
    have hp8 : (upd H7 p (.ins A.cR dx (fl3 pr an ae))) p = some (.ins A.cR dx (fl3 pr an ae)) := upd_same
    revert hEd8 hE8 x8 hp8
    generalize upd H7 p (.ins A.cR dx (fl3 pr an ae)) = H8
    intro hEd8 hE8 x8 hp8
    have hR8 : RivAt A H8 pr rows := hR6.off hp6 hpp x8
    have ha8 := x8 _ _ hpa ha6
    have hn8 := x8 _ _ han hn6
    -- self.ways
    refine q_fld (v := .non) (P := fun v H' => ∃ q kw, v = .ref q ∧ H' q = some (.dK kw) ∧ DOf H' kw (nms rts) (fun n => IsT (wyS rows rts n))) (p := p) (C := A.cR) (dx := dx) (K := K) ?_ (ev_var rfl) hp8 T.clR T.nR_ways (fl3_len pr an ae) (fun v4 H9 e9 hv4 => ?_) (fun v _ _ e ⟨q, ke, z1, z2, z3⟩ => ⟨q, ke, z1, e _ _ z2, z3.mono fun _ _ z => z.ex e⟩)
    · have hd := dcW (wi := iList K (tVar 2)) (g := g3 K) (tk := tVar 4) (te := tMeth A.cV "way" (spVWay A) [] E0 (tVar 1) (tCons (tVar 5) (tCons (tVar 6) tNil))) (vs := [4, 5, 6]) (σ := [some (.ref p), some (.ref pr), some (.ref a), some .non, none, none, none, none, none]) (H := H8) (I := fun i x _ => (ps.map V.ref)[i]? = some x)
        rts (fun r => r.1) R.nd (fun D n v H' => ∃ q, q ≠ D ∧ v = .ref q ∧ Rd H' q (.tup ((wyS rows rts n).map V.str))) (fun D n b H H' e ⟨q, h1, h2, h3⟩ => ⟨q, h1, h2, h3.imp (e _ _ h1) (fun ⟨o, z⟩ => ⟨o, e _ _ h1 z⟩)⟩) (src_len (src_list (ev_var rfl) (sq_of ha8)) (by simp [hlen])) (by omega) (fun i r v H10 D kvs hri e10 hD hv => by
          obtain ⟨q, r', rfl, hri', hq⟩ := tgt (((x4.trans x6).trans x8).trans (ExO.of e10)) hv
          rw [hri] at hri'
          cases hri'
          have hrm : r ∈ rts := List.mem_of_getElem? hri
          refine ⟨_, tgt_triple (st_of hq) rfl, ev_var rfl, ?_⟩
          obtain ⟨dy, aw, al, ac, kc, g1, _⟩ := id hR8
          refine (ep_meth (P := IsT (wyS rows rts r.1)) (ev_var rfl) (e10 _ _ g1) (flV_way _ _ _) (ea_p (ea_cons (ev_var rfl) (ea_cons (ev_var rfl) ea_nil))) fun vs H11 e11 hvs Q' q' => ?_).imp fun v H' eX ⟨q, h1, h2⟩ => ⟨q, ?_, h1, h2⟩
          · subst hvs
            refine ⟨pr, r.2.1, r.2.2, rows, rfl, hR8.ex (e10.trans e11), hrok, (R.ok r hrm).1, (R.ok r hrm).2, ?_⟩
            unfold wyS at q'
            rw [wyOf_of R hrm] at q'
            exact q'
          · rcases h2 with h2 | ⟨o, h2⟩
            · exact ne_of h2 (eX _ _ hD) (by intro z; cases z)
            · exact ne_of h2 (eX _ _ hD) (by intro z; cases z))
      intro H10 e10 Q10 q10
      exact hd H10 e10 Q10 fun d kvs H11 _ e11 hk ⟨D, hdo⟩ => q10 _ _ e11 ⟨d, kvs, rfl, hk, hdo.1, fun n v m => let ⟨q, _, h4, h5⟩ := hdo.2 n v m; ⟨q, h4, h5⟩⟩
    obtain ⟨aw, kw, rfl, hW, hWd⟩ := hv4
    have haw : aw ≠ p := ne_of hW (e9 _ _ hp8) (by intro z; cases z)
    show sFld _ _ _ _ _ _ (upd H9 p (.ins A.cR dx (fl4 pr an ae aw)))
    have x9 : ExO p H9 (upd H9 p (.ins A.cR dx (fl4 pr an ae aw))) := (ExO.refl _ _).up
    have hWd9 := hWd.mono fun w v z => z.off (e9 _ _ hp8) x9
    have hW9 := x9 _ _ haw hW
    have x10 : ExO p H8 (upd H9 p (.ins A.cR dx (fl4 pr an ae aw))) := (ExO.of e9).up
    have hp10 : (upd H9 p (.ins A.cR dx (fl4 pr an ae aw))) p = some (.ins A.cR dx (fl4 pr an ae aw)) := upd_same
    revert hWd9 hW9 x10 hp10
    generalize upd H9 p (.ins A.cR dx (fl4 pr an ae aw)) = H10
    intro hWd9 hW9 x10 hp10
    have hR10 : RivAt A H10 pr rows := hR8.off hp8 hpp x10
    have hn10 := x10 _ _ han hn8
    have hE10 := x10 _ _ hae hE8
    have hEd10 := hEd8.mono fun w v z => z.off hp8 x10
    -- self.stops
    refine s_fld (v := .non) (P := fun v H' => ∃ q ks, v = .ref q ∧ H' q = some (.dK ks) ∧ DOf H' ks (nms rts) (fun n => IsD (wyS rows rts n))) (p := p) (C := A.cR) (dx := dx) (K := K) ?_ (ev_var rfl) hp10 T.clR T.nR_stops (fl4_len pr an ae aw) (fun v5 H11 e11 hv5 => ?_) (fun v _ _ e ⟨q, ks, z1, z2, z3⟩ => ⟨q, ks, z1, e _ _ z2, z3.mono fun _ _ z => z.ex e⟩)
    · have hd := dcW (wi := iTup K (tFld K (tVar 0) "names")) (g := gName 4) (tk := tVar 4) (te := tDc (iTup K (tDGet (tFld K (tVar 0) "ways") (tVar 4))) (gName 8) tYes (tVar 8) (tC (.bl true)) [8]) (vs := [4]) (σ := [some (.ref p), some (.ref pr), some (.ref a), some .non, none, none, none, none, none]) (H := H10) (I := fun i x _ => ((nms rts).map V.str)[i]? = some x)
        (nms rts) (fun n => n) (by rw [List.map_id']; exact R.nd) (fun D n v H' => ∃ q kk, q ≠ D ∧ v = .ref q ∧ H' q = some (.dK kk) ∧ kk.map (·.1) = (wyS rows rts n).map Sum.inr) (fun D n b H H' e ⟨q, kk, h1, h2, h3, h4⟩ => ⟨q, kk, h1, h2, e _ _ h1 h3, h4⟩)
        (src_len (src_tup (ev_fld (ev_var rfl) hp10 T.clR T.nR_names (fl4_names _ _ _ _)) (st_of hn10)) (by simp)) (by unfold nms; simp; omega) (fun i n v H12 D kvs hri e12 hD hv => by
          have := item_str hv hri
          subst this
          have hnm : n ∈ nms rts := List.mem_of_getElem? hri
          obtain ⟨vw, hvw, q, rfl, hq⟩ := hWd9.get hnm
          refine ⟨_, tgt_name rfl, ev_var rfl, ?_⟩
          have hin := dcW (wi := iTup K (tDGet (tFld K (tVar 0) "ways") (tVar 4))) (g := gName 8) (tk := tVar 8) (te := tC (.bl true)) (vs := [8]) (σ := [some (.ref p), some (.ref pr), some (.ref a), some .non, some (.str n), none, none, none, none]) (H := H12) (I := fun i x _ => ((wyS rows rts n).map V.str)[i]? = some x)
            (wyS rows rts n) (fun w => w) (by rw [List.map_id']; exact wyS_nodup G R hnm) (fun _ _ v _ => v = .bl true) (fun _ _ => offm_val)
            (src_len (src_tup (ev_dget (k := Sum.inr n) (ev_fld (ev_var rfl) (e12 _ _ hp10) T.clR T.nR_ways (fl4_ways _ _ _ _)) (ev_var rfl) (.inl (e12 _ _ hW9)) hvw) (.inl (ex_rd e12 hq))) (by simp)) (by have := wyS_len G R hnm; omega)
            (fun j wx v H13 D' kvs' hrj e13 hD' hv' => by
              have := item_str hv' hrj
              subst this
              exact ⟨_, tgt_name rfl, ev_var rfl, ep_of ev_c⟩)
          intro H13 e13 Q13 q13
          refine hin H13 e13 Q13 fun d kk H14 nd e14 hk ⟨_, hdo⟩ => q13 _ _ e14 ⟨d, kk, ?_, rfl, hk, ?_⟩
          · exact fun z => by
              have h1 := e13 _ _ hD
              rw [← z, nd] at h1
              cases h1
          · have := hdo.1
            rw [List.map_id'] at this
            exact this)
      intro H12 e12 Q12 q12
      refine hd H12 e12 Q12 fun d kvs H13 _ e13 hk ⟨D, hdo⟩ => q12 _ _ e13 ⟨d, kvs, rfl, hk, ?_⟩
      rw [List.map_id'] at hdo
      exact ⟨hdo.1, fun n v m => let ⟨q, kk, _, h4, h5, h6⟩ := hdo.2 n v m; ⟨q, kk, h4, h5, h6⟩⟩
    obtain ⟨as_, ks, rfl, hS, hSd⟩ := hv5
    have hpq := e11 _ _ hp10
    have has : as_ ≠ p := ne_of hS hpq (by intro z; cases z)
    have x12 : ExO p H11 (upd H11 p (.ins A.cR dx (putF "stops" (.ref as_) (fl4 pr an ae aw)))) := (ExO.refl _ _).up
    refine k _ ((((x4.trans x6).trans x8).trans x10).trans ((ExO.of e11).trans x12)) ⟨dx, pr, an, ae, aw, as_, ke, kw, ks, by rw [upd_same, fl5_eq], (hR10.ex e11).off hpq hpp x12, x12 _ _ han (e11 _ _ hn10), x12 _ _ hae (e11 _ _ hE10), ?_, x12 _ _ haw (e11 _ _ hW9), ?_, x12 _ _ has hS, ?_⟩
    · exact hEd10.mono fun w v z => (z.ex e11).off hpq x12
    · exact hWd9.mono fun w v z => (z.ex e11).off hpq x12
    · exact hSd.mono fun w v z => z.off hpq x12
end
end Wk

/-! Rights' methods -/
namespace Wk
open PySem L2 Evl
def spRNeed (A : Adr) : Sp := fun vs H Q _ => ∃ (p : Addr) (x : Str) (rows : List (Str × Str)) (rts : List (Str × Str × Str)), vs = [.ref p, .str x] ∧ RtsAt A H p rows rts ∧ x ∈ nms rts ∧ RetV .non H Q
def spRRows (A : Adr) : Sp := fun vs H Q _ => ∃ (p : Addr) (rows : List (Str × Str)) (rts : List (Str × Str × Str)), vs = [.ref p] ∧ RtsAt A H p rows rts ∧ RightsOk rows rts ∧ RetP (fun v H' => ∃ a, v = .ref a ∧ RghAt H' a rts) H Q
def spRWay (A : Adr) : Sp := fun vs H Q _ => ∃ (p : Addr) (x : Str) (rows : List (Str × Str)) (rts : List (Str × Str × Str)), vs = [.ref p, .str x] ∧ RtsAt A H p rows rts ∧ x ∈ nms rts ∧ RetP (IsT (wyS rows rts x)) H Q
abbrev lwS (rows : List (Str × Str)) (rts : List (Str × Str × Str)) : Str → Str := lwOf sea rows rts
def spRLast (A : Adr) : Sp := fun vs H Q _ => ∃ (p : Addr) (x : Str) (rows : List (Str × Str)) (rts : List (Str × Str × Str)), vs = [.ref p, .str x] ∧ RtsAt A H p rows rts ∧ RiverOk rows ∧ RightsOk rows rts ∧ x ∈ nms rts ∧ RetV (.str (lwS rows rts x)) H Q
def spRPassing (A : Adr) : Sp := fun vs H Q _ => ∃ (p : Addr) (x : Str) (rows : List (Str × Str)) (rts : List (Str × Str × Str)), vs = [.ref p, .str x] ∧ RtsAt A H p rows rts ∧ RightsOk rows rts ∧ x ∈ wns rows ∧ RetP (IsT (pass (wyS rows rts) (nms rts) x)) H Q
theorem nms_len (rts : List (Str × Str × Str)) : (nms rts).length = rts.length := by unfold nms; simp
section
variable {P : Program} {w : World} {K : PySem.W.Frag} {mg : Str → Option Value} {base : Heap} {A : Adr}
theorem scRNeed : FnScope ["self", "name"] ["self", "name"] (defScope sRNeed) := ⟨rfl, rfl, rfl, by decide +kernel, rfl, by decide +kernel, by decide +kernel⟩
theorem ok_rNeed (T : Txt K mg A) : FnOk P w K mg base CX0 1 A.fRNeed A.dRNeed ["self", "name"] (spRNeed A) := by
  refine T.fnRNeed.ok scRNeed (fun vs H Q E h => ?_) (fun cdv AA outer s H vs Q E hr h => ?_)
  · obtain ⟨p, x, rows, rts, rfl, _⟩ := h
    rfl
  · obtain ⟨p, x, rows, rts, rfl, ⟨dx, pr, an, ae, aw, as_, ke, kw, ks, h1, h2, h3, _⟩, hx, k⟩ := h
    refine ⟨_, pss_one (ps_if (pt_cmpR op_notIn_seq (pv 1) (pe_fld (pv 0) rfl) rfl) (pss_one ps_never) pss_nil), ?_⟩
    exact s_when (b := false) (et_test (ev_notInT (ev_var rfl) (ev_fld (ev_var rfl) h1 T.clR T.nR_names (flR_names _ _ _ _ _)) (st_of h3) (by rw [decide_eq_true hx]; rfl))) (fun h => nomatch h) (fun _ H1 e1 => k H1 e1)
/-- rights.need(x) -/
theorem ev_rNeed {σ : L2.St} {H : Hp} {ta te : TE} {p : Addr} {x : Str} {rows : List (Str × Str)} {rts : List (Str × Str × Str)} {E : XK} (ho : Ev ta σ H (.ref p)) (hx : Ev te σ H (.str x)) (hR : RtsAt A H p rows rts) (hm : x ∈ nms rts) : Ev (tMeth A.cR "need" (spRNeed A) [] E ta (tCons te tNil)) σ H .non := by
  obtain ⟨dx, pr, an, ae, aw, as_, ke, kw, ks, h1, _⟩ := id hR
  refine ep_to (ep_meth ho h1 (flR_need _ _ _ _ _) (ea_p (ea_cons hx ea_nil)) fun vs H1 e1 hvs Q q => ?_)
  subst hvs
  exact ⟨p, x, rows, rts, rfl, hR.ex e1, hm, fun H2 e2 => q .non H2 e2 rfl⟩
theorem scRRows : FnScope ["self", "name"] ["self"] (defScope sRRows) := ⟨rfl, rfl, rfl, by decide +kernel, rfl, by decide +kernel, by decide +kernel⟩
theorem ok_rRows (T : Txt K mg A) : FnOk P w K mg base CX0 1 A.fRRows A.dRRows ["self"] (spRRows A) := by
  refine T.fnRRows.ok scRRows (fun vs H Q E h => ?_) (fun cdv AA outer s H vs Q E hr h => ?_)
  · obtain ⟨p, rows, rts, rfl, _⟩ := h
    rfl
  · obtain ⟨p, rows, rts, rfl, ⟨dx, pr, an, ae, aw, as_, ke, kw, ks, h1, h2, h3, h4, h5, _⟩, hok, k⟩ := h
    have hu := hu_of hr
    have hm := hok.most
    refine ⟨_, pss_one (ps_ret (pe_lc (own := [("name", 1)]) (g := gName 1) (tt := tYes) (te := tDGet (tFld K (tVar 0) "entries") (tVar 1)) rfl scRRows.nd (pi_tup (pe_fld (pv 0) rfl)) (blkOk_by (own := [("name", 1)]) (N := ["self", "name"]) (sc := defScope sRRows) (by decide +kernel))
          (fun _ _ _ _ _ => pg_name (i := 1) scRRows.nd rfl (Or.inl rfl)) (fun _ _ _ _ _ => pts_nil) (fun _ _ _ _ _ => pe_dget hu (pe_fld (pv 0) rfl) (pv 1) (fun _ _ => rfl)))), ?_⟩
    have hl := lcR (wi := iTup K (tFld K (tVar 0) "names")) (g := gName 1) (te := tDGet (tFld K (tVar 0) "entries") (tVar 1)) (vs := [1]) (σ := L2.start ["self", "name"] [V.ref p]) (H := H) (I := fun i x _ => ((nms rts).map V.str)[i]? = some x)
      rts (fun D r v H' => ∃ q, q ≠ D ∧ v = .ref q ∧ H' q = some (.tup [.str r.1, .str r.2.1, .str r.2.2])) (fun D r b H H' e ⟨q, z1, z2, z3⟩ => ⟨q, z1, z2, e _ _ z1 z3⟩) (src_len (src_tup (ev_fld (ev_var rfl) h1 T.clR T.nR_names (flR_names _ _ _ _ _)) (st_of h3)) (by simp [nms_len])) (by omega)
      (fun i r v H1 D acc hri e1 hD hv => by
        have hw : (nms rts)[i]? = some r.1 := by unfold nms; rw [List.getElem?_map, hri]; rfl
        have := item_str hv hw
        subst this
        have hrm := List.mem_of_getElem? hri
        obtain ⟨v, hv, r', q, hr', hn, rfl, hq⟩ := h5.get (List.mem_of_getElem? hw)
        have er : r' = r := by
          have a1 := find_of hok.good.nd hr'
          have a2 := find_of hok.good.nd hrm
          rw [hn, a2] at a1
          exact (Option.some.inj a1).symm
        subst er
        refine ⟨_, tgt_name rfl, ?_⟩
        exact (ep_of (ev_dget (k := Sum.inr r'.1) (ev_fld (ev_var rfl) (e1 _ _ h1) T.clR T.nR_entries (flR_entries _ _ _ _ _)) (ev_var rfl) (.inl (e1 _ _ h4)) hv)).imp fun v H' eX z => ⟨q, ne_of ((e1.trans eX) _ _ hq) (eX _ _ hD) (by intro z; cases z), z, (e1.trans eX) _ _ hq⟩)
    refine hl H (Ex.refl H) _ fun d acc H1 _ e1 hd ⟨D, hp⟩ => ?_
    refine k _ H1 e1 ⟨d, rfl, ?_⟩
    have : ∀ {rs : List (Str × Str × Str)} {acc : List V}, Paired (fun (r : Str × Str × Str) v => ∃ q, q ≠ D ∧ v = V.ref q ∧ H1 q = some (.tup [.str r.1, .str r.2.1, .str r.2.2])) rs acc → ∃ ps : List Addr, acc = ps.map V.ref ∧ Paired (fun p (r : Str × Str × Str) => H1 p = some (.tup [.str r.1, .str r.2.1, .str r.2.2])) ps rs := by
      intro rs acc hp
      induction hp with
      | nil => exact ⟨[], rfl, .nil⟩
      | cons r t ih =>
        obtain ⟨q, _, rfl, z3⟩ := r
        obtain ⟨ps, rfl, hps⟩ := ih
        exact ⟨q :: ps, rfl, .cons z3 hps⟩
    obtain ⟨ps, rfl, hps⟩ := this hp
    exact ⟨ps, hd, hps⟩
theorem scRWay : FnScope ["self", "name"] ["self", "name"] (defScope sRWay) := ⟨rfl, rfl, rfl, by decide +kernel, rfl, by decide +kernel, by decide +kernel⟩
theorem ok_rWay (T : Txt K mg A) : FnOk P w K mg base CX0 2 A.fRWay A.dRWay ["self", "name"] (spRWay A) := by
  have GN : FnOk P w K mg base CX0 1 A.fRNeed A.dRNeed ["self", "name"] (spRNeed A) := ok_rNeed T
  refine T.fnRWay.ok scRWay (fun vs H Q E h => ?_) (fun cdv AA outer s H vs Q E hr h => ?_)
  · obtain ⟨p, x, rows, rts, rfl, _⟩ := h
    rfl
  · obtain ⟨p, x, rows, rts, rfl, hR, hx, k⟩ := h
    have hu := hu_of hr
    obtain ⟨dx, pr, an, ae, aw, as_, ke, kw, ks, h1, h2, h3, h4, h5, h6, h7, _⟩ := id hR
    refine ⟨_, pss_cons (ps_expr (pe_meth (pv 0) T.clR T.mtRNeed GN hr T.bdRNeed .nil pass0 (pa_cons (pv 1) pa_nil)))
      (pss_one (ps_ret (pe_dget hu (pe_fld (pv 0) rfl) (pv 1) (fun _ _ => rfl)))), ?_⟩
    refine q_drop (ev_rNeed (ev_var rfl) (ev_var rfl) hR hx) fun H1 e1 => ?_
    obtain ⟨v, hv, hq⟩ := h7.get hx
    exact s_ret (ev_dget (k := Sum.inr x) (ev_fld (ev_var rfl) (e1 _ _ h1) T.clR T.nR_ways (flR_ways _ _ _ _ _)) (ev_var rfl) (.inl (e1 _ _ h6)) hv) fun H2 e2 => k _ H2 (e1.trans e2) (hq.ex (e1.trans e2))
/-- rights.way(x) -/
theorem ep_rWay {σ : L2.St} {H : Hp} {ta te : TE} {p : Addr} {x : Str} {rows : List (Str × Str)} {rts : List (Str × Str × Str)} {E : XK} (ho : Ev ta σ H (.ref p)) (hx : Ev te σ H (.str x)) (hR : RtsAt A H p rows rts) (hm : x ∈ nms rts) :
    EvP (tMeth A.cR "way" (spRWay A) [] E ta (tCons te tNil)) σ H (IsT (wyS rows rts x)) := by
  obtain ⟨dx, pr, an, ae, aw, as_, ke, kw, ks, h1, _⟩ := id hR
  refine ep_meth ho h1 (flR_way _ _ _ _ _) (ea_p (ea_cons hx ea_nil)) fun vs H1 e1 hvs Q q => ?_
  subst hvs
  exact ⟨p, x, rows, rts, rfl, hR.ex e1, hm, q⟩
theorem scRLast : FnScope ["self", "name"] ["self", "name"] (defScope sRLast) := ⟨rfl, rfl, rfl, by decide +kernel, rfl, by decide +kernel, by decide +kernel⟩
theorem ok_rLast (T : Txt K mg A) : FnOk P w K mg base CX0 3 A.fRLast A.dRLast ["self", "name"] (spRLast A) := by
  have GW : FnOk P w K mg base CX0 2 A.fRWay A.dRWay ["self", "name"] (spRWay A) := ok_rWay T
  refine T.fnRLast.ok scRLast (fun vs H Q E h => ?_) (fun cdv AA outer s H vs Q E hr h => ?_)
  · obtain ⟨p, x, rows, rts, rfl, _⟩ := h
    rfl
  · obtain ⟨p, x, rows, rts, rfl, hR, hrok, hok, hx, k⟩ := h
    refine ⟨_, pss_one (ps_ret (pe_ix ix_tup (pe_meth (pv 0) T.clR T.mtRWay GW hr T.bdRWay .nil pass0 (pa_cons (pv 1) pa_nil)) (pe_un un_neg pe_int) (fun _ _ => rfl))), ?_⟩
    obtain ⟨i, pre, z, post, _, e1, _, e3⟩ := wy_cut hrok.good hok.good hx
    refine s_ret (ev_ixTP (xs := (wyS rows rts x).map V.str) (i := -1) ((ep_rWay (ev_var rfl) (ev_var rfl) hR hx).imp fun v H' _ z => z.sq) (ev_un ev_c ru_neg) ?_) k
    unfold wyS lwS
    rw [e1, e3, List.map_append]
    exact at_last
theorem scRPassing : FnScope ["self", "weir", "name"] ["self", "weir"] (defScope sRPassing) := ⟨rfl, rfl, rfl, by decide +kernel, rfl, by decide +kernel, by decide +kernel⟩
theorem ok_rPassing (T : Txt K mg A) : FnOk P w K mg base CX0 2 A.fRPassing A.dRPassing ["self", "weir"] (spRPassing A) := by
  have GN : FnOk P w K mg base CX0 1 A.fVNeed A.dVNeed ["self", "weir"] (spVNeed A) := ok_vNeed T
  refine T.fnRPassing.ok scRPassing (fun vs H Q E h => ?_) (fun cdv AA outer s H vs Q E hr h => ?_)
  · obtain ⟨p, x, rows, rts, rfl, _⟩ := h
    rfl
  · obtain ⟨p, x, rows, rts, rfl, hR, hok, hx, k⟩ := h
    have hu := hu_of hr
    have hm := hok.most
    obtain ⟨dx, pr, an, ae, aw, as_, ke, kw, ks, h1, h2, h3, h4, h5, h6, h7, h8, h9⟩ := id hR
    refine ⟨_, pss_cons (ps_expr (pe_meth (pe_fld (pv 0) rfl) T.clV T.mtVNeed GN hr T.bdVNeed .nil pass0 (pa_cons (pv 1) pa_nil)))
      (pss_one (ps_ret (pe_callTy call_tuple_of (by rfl) T.b_tuple (by decide +kernel) (pa_cons
        (pe_lc (own := [("name", 2)]) (g := gName 2) (tt := tB (tDIn (tVar 1) (tDGet (tFld K (tVar 0) "stops") (tVar 2)))) rfl scRPassing.nd (pi_tup (pe_fld (pv 0) rfl)) (blkOk_by (own := [("name", 2)]) (N := ["self", "weir", "name"]) (sc := defScope sRPassing) (by decide +kernel))
          (fun _ _ _ _ _ => pg_name (i := 2) scRPassing.nd rfl (Or.inl rfl)) (fun _ _ _ _ _ => pts_one (pt_cmp (pc_din hu (pv 1) (pe_dget hu (pe_fld (pv 0) rfl) (pv 2) (fun _ _ => rfl))))) (fun _ _ _ _ _ => pv 2)) pa_nil)))), ?_⟩
    refine q_drop (ev_vNeed (ev_fld (ev_var rfl) h1 T.clR T.nR_river (flR_river _ _ _ _ _)) (ev_var rfl) h2 hx) fun H1 e1 => ?_
    refine s_retP ((ep_u (eu_tupOf (lcV (nms rts) (fun n => decide (x ∈ wyS rows rts n)) V.str (src_len (src_tup (ev_fld (ev_var rfl) (e1 _ _ h1) T.clR T.nR_names (flR_names _ _ _ _ _)) (st_of (e1 _ _ h3))) (by simp)) (by rw [nms_len]; omega) (fun i n v H2 hri e2 hv => ?_)))).imp fun v H' _ ⟨q, z1, z2⟩ => (⟨q, z1, .inl z2⟩ : IsT _ v H')) (fun v H2 e2 z => k v H2 (e1.trans e2) z)
    have := item_str hv hri
    subst this
    have e12 := e1.trans e2
    obtain ⟨vd, hvd, q, kk, rfl, hq, hkk⟩ := h9.get (List.mem_of_getElem? hri)
    exact ⟨_, tgt_name rfl, et_B (ev_din (k := Sum.inr x) (ev_var rfl) (ev_dget (k := Sum.inr n) (ev_fld (ev_var rfl) (e12 _ _ h1) T.clR T.nR_stops (flR_stops _ _ _ _ _)) (ev_var rfl) (.inl (e12 _ _ h8)) hvd) (.inl (e12 _ _ hq)) (keys_has hkk x)), fun _ => ev_var rfl⟩
end
end Wk

/-! == of data; meet, met_by, fullest -/
namespace Wk
open PySem L2 Evl
mutual
theorem dp_ex {K : PySem.W.Frag} {H H' : Hp} (e : Ex H H') : ∀ (d : PyData) (v : V), Dp K H v d → Dp K H' v d
  | .none, _, h => by cases h; exact .non
  | .bool b, _, h => by cases h; exact .bl b
  | .int i, _, h => by cases h; exact .int i
  | .str x, _, h => by cases h; exact .str x
  | .list ds, _, h => by
    cases h with
    | lst hs ha => exact .lst (ex_l e hs) (dpAll_ex e ds _ ha)
  | .tuple ds, _, h => by
    cases h with
    | tup hs ha => exact .tup (ex_t e hs) (dpAll_ex e ds _ ha)
  | .dict _, _, h => by cases h
theorem dpAll_ex {K : PySem.W.Frag} {H H' : Hp} (e : Ex H H') : ∀ (ds : List PyData) (vs : List V), DpAll K H vs ds → DpAll K H' vs ds
  | [], _, h => by cases h; exact .nil
  | d :: ds, _, h => by
    cases h with
    | cons h1 h2 => exact .cons (dp_ex e d _ h1) (dpAll_ex e ds _ h2)
end
theorem dp_strs {K : PySem.W.Frag} {H : Hp} : ∀ ss : List Str, DpAll K H (ss.map V.str) (ss.map PyData.str)
  | [] => .nil
  | s :: ss => .cons (.str s) (dp_strs ss)
theorem dp_tup {K : PySem.W.Frag} {H : Hp} {p : Addr} {ss : List Str} (h : SqT K H p (ss.map V.str)) : Dp K H (.ref p) (.tuple (ss.map PyData.str)) := .tup h (dp_strs ss)
theorem dp_lst {K : PySem.W.Frag} {H : Hp} {p : Addr} {ss : List Str} (h : SqL K H p (ss.map V.str)) : Dp K H (.ref p) (.list (ss.map PyData.str)) := .lst h (dp_strs ss)
theorem IsT.dp {K : PySem.W.Frag} {ss : List Str} {v : V} {H : Hp} (h : IsT ss v H) : Dp K H v (.tuple (ss.map PyData.str)) := by
  obtain ⟨p, rfl, h2⟩ := h.sq (K := K)
  exact dp_tup h2
theorem strOk_nm {x : Str} (h : IsNm x) : PyData.strOk x = true := by
  have key : ∀ c ∈ letters.cps.toList, c < 0x110000 := by decide +kernel
  unfold PyData.strOk
  rw [← Array.all_toList, List.all_eq_true]
  exact fun c hc => decide_eq_true (key c (h.2.2 c hc))
theorem canLay_strs : ∀ {ss : List Str}, (∀ s ∈ ss, IsNm s) → PyData.canLayAll0 (ss.map PyData.str) = true
  | [], _ => rfl
  | s :: ss, h => by
    rw [List.map_cons, PyData.canLayAll0, PyData.canLay0, strOk_nm (h s List.mem_cons_self), canLay_strs fun t ht => h t (List.mem_cons_of_mem _ ht)]
    rfl
theorem depth_strs : ∀ (ss : List Str), PyData.depthAll (ss.map PyData.str) = 0
  | [] => rfl
  | s :: ss => by
    rw [List.map_cons, PyData.depthAll, PyData.depth, depth_strs ss]
    rfl
theorem shaped_tup {ss : List Str} (h : ∀ s ∈ ss, IsNm s) : SeqAt.shaped (.tuple (ss.map PyData.str)) = true := by
  unfold SeqAt.shaped
  rw [PyData.canLay0, canLay_strs h, PyData.depth, depth_strs]
  rfl
theorem shaped_lst {ss : List Str} (h : ∀ s ∈ ss, IsNm s) : SeqAt.shaped (.list (ss.map PyData.str)) = true := by
  unfold SeqAt.shaped
  rw [PyData.canLay0, canLay_strs h, PyData.depth, depth_strs]
  rfl
theorem eqv_nil : ∀ (ss : List Str), PyData.eqv (.tuple (ss.map PyData.str)) (.tuple ([].map PyData.str)) = ss.isEmpty
  | [] => by rw [PyData.eqv]; rfl
  | s :: ss => by rw [PyData.eqv]; rfl
section
variable {K : PySem.W.Frag} {σ : L2.St} {H H' : Hp} {ta tb : TE} {d e : PyData}
theorem ev_neD {b : Bool} (ha : EvP ta σ H (fun v H' => Dp K H' v d)) (hb : EvP tb σ H (fun v H' => Dp K H' v e)) (sd : SeqAt.shaped d = true) (se : SeqAt.shaped e = true) (eb : (!PyData.eqv d e) = b) : Ev (tOp (rNeD K) ta tb) σ H (.bl b) := fun H1 e1 Q q =>
  ha H1 e1 _ fun v H2 e2 hv => hb H2 (e1.trans e2) _ fun u H3 e3 hu => ⟨d, e, dp_ex e3 d v hv, hu, sd, se, by rw [eb]; exact q H3 (e2.trans e3)⟩
theorem ev_eqD {b : Bool} (ha : EvP ta σ H (fun v H' => Dp K H' v d)) (hb : EvP tb σ H (fun v H' => Dp K H' v e)) (sd : SeqAt.shaped d = true) (se : SeqAt.shaped e = true) (eb : PyData.eqv d e = b) : Ev (tOp (rEqD K) ta tb) σ H (.bl b) := fun H1 e1 Q q =>
  ha H1 e1 _ fun v H2 e2 hv => hb H2 (e1.trans e2) _ fun u H3 e3 hu => ⟨d, e, dp_ex e3 d v hv, hu, sd, se, by rw [eb]; exact q H3 (e2.trans e3)⟩
end
/-- the weirs that both pass -/
def both (wy : Str → List Str) (a b : Str) : List Str := (wy a).filter fun w => decide (w ∈ wy b)
theorem both_meets (wy : Str → List Str) (a b : Str) : (!(both wy a b).isEmpty) = meets wy a b := by
  unfold both meets
  rw [Bool.eq_iff_iff]
  simp only [Bool.not_eq_true', List.isEmpty_eq_false_iff_exists_mem, List.mem_filter, List.any_eq_true]
def spMeet (A : Adr) : Sp := fun vs H Q _ => ∃ (p : Addr) (x y : Str) (rows : List (Str × Str)) (rts : List (Str × Str × Str)), vs = [.ref p, .str x, .str y] ∧ RtsAt A H p rows rts ∧ RiverOk rows ∧ RightsOk rows rts ∧ x ∈ nms rts ∧ y ∈ nms rts ∧ RetP (IsT (both (wyS rows rts) x y)) H Q
def spMetBy (A : Adr) : Sp := fun vs H Q _ => ∃ (p : Addr) (x : Str) (rows : List (Str × Str)) (rts : List (Str × Str × Str)), vs = [.ref p, .str x] ∧ RtsAt A H p rows rts ∧ RiverOk rows ∧ RightsOk rows rts ∧ x ∈ nms rts ∧ RetP (IsT (metBy (wyS rows rts) (nms rts) x)) H Q
theorem weir_nm {rows : List (Str × Str)} (h : RiverOk rows) {w : Str} (hw : w ∈ wns rows) : IsNm w := by
  obtain ⟨r, hr, e⟩ := List.mem_map.mp hw
  rw [← e]
  exact (h.nm r hr).1
theorem right_nm {rows : List (Str × Str)} {rts : List (Str × Str × Str)} (h : RightsOk rows rts) {n : Str} (hn : n ∈ nms rts) : IsNm n := by
  obtain ⟨r, hr, e⟩ := List.mem_map.mp hn
  rw [← e]
  exact h.nm r hr
section
variable {P : Program} {w : World} {K : PySem.W.Frag} {mg : Str → Option Value} {base : Heap} {A : Adr}
theorem scMeet : FnScope ["rights", "one", "other", "weir"] ["rights", "one", "other"] (defScope sMeet) := ⟨rfl, rfl, rfl, by decide +kernel, rfl, by decide +kernel, by decide +kernel⟩
theorem ok_meet (T : Txt K mg A) : FnOk P w K mg base CX0 3 A.fMeet A.dMeet ["rights", "one", "other"] (spMeet A) := by
  have GN : FnOk P w K mg base CX0 1 A.fRNeed A.dRNeed ["self", "name"] (spRNeed A) := ok_rNeed T
  have GW : FnOk P w K mg base CX0 2 A.fRWay A.dRWay ["self", "name"] (spRWay A) := ok_rWay T
  refine T.fnMeet.ok scMeet (fun vs H Q E h => ?_) (fun cdv AA outer s H vs Q E hr h => ?_)
  · obtain ⟨p, x, y, rows, rts, rfl, _⟩ := h
    rfl
  · obtain ⟨p, x, y, rows, rts, rfl, hR, hrok, hok, hx, hy, k⟩ := h
    have hu := hu_of hr
    have hr1 : Room 1 _ := hr.mono (by decide)
    have hm := hrok.most
    obtain ⟨dx, pr, an, ae, aw, as_, ke, kw, ks, h1, h2, h3, h4, h5, h6, h7, h8, h9⟩ := id hR
    refine ⟨_, pss_cons (ps_expr (pe_meth (pv 0) T.clR T.mtRNeed GN hr1 T.bdRNeed .nil pass0 (pa_cons (pv 1) pa_nil)))
      (pss_cons (ps_expr (pe_meth (pv 0) T.clR T.mtRNeed GN hr1 T.bdRNeed .nil pass0 (pa_cons (pv 2) pa_nil)))
      (pss_one (ps_ret (pe_callTy call_tuple_of (by rfl) T.b_tuple (by decide +kernel) (pa_cons
        (pe_lc (own := [("weir", 3)]) (g := gName 3) (tt := tB (tDIn (tVar 3) (tDGet (tFld K (tVar 0) "stops") (tVar 2)))) rfl scMeet.nd (pi_tup (pe_meth (pv 0) T.clR T.mtRWay GW hr T.bdRWay .nil pass0 (pa_cons (pv 1) pa_nil))) (blkOk_by (own := [("weir", 3)]) (N := ["rights", "one", "other", "weir"]) (sc := defScope sMeet) (by decide +kernel))
          (fun _ _ _ _ _ => pg_name (i := 3) scMeet.nd rfl (Or.inl rfl)) (fun _ _ _ _ _ => pts_one (pt_cmp (pc_din hu (pv 3) (pe_dget hu (pe_fld (pv 0) rfl) (pv 2) (fun _ _ => rfl))))) (fun _ _ _ _ _ => pv 3)) pa_nil))))), ?_⟩
    refine q_drop (ev_rNeed (ev_var rfl) (ev_var rfl) hR hx) fun H1 e1 => ?_
    refine q_drop (ev_rNeed (ev_var rfl) (ev_var rfl) (hR.ex e1) hy) fun H2 e2 => ?_
    have e12 := e1.trans e2
    refine s_retP ((ep_u (eu_tupOf (lcV (wyS rows rts x) (fun w => decide (w ∈ wyS rows rts y)) V.str (src_len (src_tupP ((ep_rWay (ev_var rfl) (ev_var rfl) (hR.ex e12) hx).imp fun v H' _ z => z.sq)) (by simp)) (by have := wyS_len hrok.good hok.good hx; omega) (fun i wx v H3 hri e3 hv => ?_)))).imp fun v H' _ ⟨q, z1, z2⟩ => (⟨q, z1, .inl z2⟩ : IsT _ v H')) (fun v H3 e3 z => k v H3 (e12.trans e3) z)
    have := item_str hv hri
    subst this
    have e13 := e12.trans e3
    obtain ⟨vd, hvd, q, kk, rfl, hq, hkk⟩ := h9.get hy
    exact ⟨_, tgt_name rfl, et_B (ev_din (k := Sum.inr wx) (ev_var rfl) (ev_dget (k := Sum.inr y) (ev_fld (ev_var rfl) (e13 _ _ h1) T.clR T.nR_stops (flR_stops _ _ _ _ _)) (ev_var rfl) (.inl (e13 _ _ h8)) hvd) (.inl (e13 _ _ hq)) (keys_has hkk wx)), fun _ => ev_var rfl⟩
theorem scMetBy : FnScope ["rights", "name", "other"] ["rights", "name"] (defScope sMetBy) := ⟨rfl, rfl, rfl, by decide +kernel, rfl, by decide +kernel, by decide +kernel⟩
theorem ok_metBy (T : Txt K mg A) : FnOk P w K mg base CX0 4 A.fMetBy A.dMetBy ["rights", "name"] (spMetBy A) := by
  have GN : FnOk P w K mg base CX0 1 A.fRNeed A.dRNeed ["self", "name"] (spRNeed A) := ok_rNeed T
  have GM : FnOk P w K mg base CX0 3 A.fMeet A.dMeet ["rights", "one", "other"] (spMeet A) := ok_meet T
  refine T.fnMetBy.ok scMetBy (fun vs H Q E h => ?_) (fun cdv AA outer s H vs Q E hr h => ?_)
  · obtain ⟨p, x, rows, rts, rfl, _⟩ := h
    rfl
  · obtain ⟨p, x, rows, rts, rfl, hR, hrok, hok, hx, k⟩ := h
    have hu64 := hr.units
    have hr1 : Room 1 _ := hr.mono (by decide)
    have hm := hok.most
    obtain ⟨dx, pr, an, ae, aw, as_, ke, kw, ks, h1, h2, h3, h4, h5, h6, h7, h8, h9⟩ := id hR
    refine ⟨_, pss_cons (ps_expr (pe_meth (pv 0) T.clR T.mtRNeed GN hr1 T.bdRNeed .nil pass0 (pa_cons (pv 1) pa_nil)))
      (pss_one (ps_ret (pe_callTy call_tuple_of (by rfl) T.b_tuple (by decide +kernel) (pa_cons
        (pe_lc (own := [("other", 2)]) (g := gName 2) (tt := tAnd (tTest (tOp rNe (tVar 2) (tVar 1))) (tTest (tOp (rNeD K) (tCall (spMeet A) [] E0 (tCons (tVar 0) (tCons (tVar 1) (tCons (tVar 2) tNil)))) (tTup tNil)))) rfl scMetBy.nd (pi_tup (pe_fld (pv 0) rfl)) (blkOk_by (own := [("other", 2)]) (N := ["rights", "name", "other"]) (sc := defScope sMetBy) (by decide +kernel))
          (fun _ _ _ _ _ => pg_name (i := 2) scMetBy.nd rfl (Or.inl rfl)) (fun _ _ _ _ _ => pts_one (PW.pt (pw_and (pt_cmpR op_ne (pv 2) (pv 1) (nomark _)) (pw_and1 (pt_cmpR (op_neD hu64) (pe_call GM hr rfl T.mgMeet T.fnMeet.kp T.bdMeet .nil pass0 (pa_cons (pv 0) (pa_cons (pv 1) (pa_cons (pv 2) pa_nil)))) (pe_tup pa_nil) (nomark _)))))) (fun _ _ _ _ _ => pv 2)) pa_nil)))), ?_⟩
    refine q_drop (ev_rNeed (ev_var rfl) (ev_var rfl) hR hx) fun H1 e1 => ?_
    refine s_retP ((ep_u (eu_tupOf (lcV (nms rts) (fun o => !decide (o = x) && meets (wyS rows rts) x o) V.str (src_len (src_tup (ev_fld (ev_var rfl) (e1 _ _ h1) T.clR T.nR_names (flR_names _ _ _ _ _)) (st_of (e1 _ _ h3))) (by simp)) (by rw [nms_len]; omega) (fun i o v H2 hri e2 hv => ?_)))).imp fun v H' _ ⟨q, z1, z2⟩ => (⟨q, z1, .inl z2⟩ : IsT _ v H')) (fun v H2 e2 z => k v H2 (e1.trans e2) z)
    have := item_str hv hri
    subst this
    have ho : o ∈ nms rts := List.mem_of_getElem? hri
    refine ⟨_, tgt_name rfl, et_and (et_test (ev_neS (ev_var rfl) (ev_var rfl) rfl)) (fun _ => et_test (ev_neD (d := .tuple ((both (wyS rows rts) x o).map PyData.str)) (e := .tuple ([].map PyData.str)) ?_ ?_ (shaped_tup ?_) (shaped_tup (fun s hs => absurd hs (by simp))) ?_)), fun _ => ev_var rfl⟩
    · refine (ep_call (P := IsT (both (wyS rows rts) x o)) (ea_p (ea_cons (ev_var rfl) (ea_cons (ev_var rfl) (ea_cons (ev_var rfl) ea_nil)))) fun vs H3 e3 hvs Q' q' => ?_).imp fun v H' _ z => z.dp
      subst hvs
      exact ⟨p, x, o, rows, rts, rfl, hR.ex (e1.trans (e2.trans e3)), hrok, hok, hx, ho, q'⟩
    · exact (ep_u (eu_tup ea_nil (by simp))).imp fun v H' _ ⟨q, z1, z2⟩ => by
        rw [z1]
        exact dp_tup (ss := []) (st_of z2)
    · intro s hs
      exact weir_nm hrok (wy_weir hrok.good hok.good hx s (List.mem_filter.mp hs).1)
    · rw [eqv_nil]
      exact both_meets _ _ _
end
end Wk

/-! fullest -/
namespace Wk
open PySem L2 Evl
/-- the first weir in the order of weirs -/
def w0Of (rows : List (Str × Str)) : Str := (wns rows).headD sea
/-- the fullest weir -/
def bestOf (rows : List (Str × Str)) (rts : List (Str × Str × Str)) : Str := bestW (wyS rows rts) (nms rts) (w0Of rows) (wns rows)
/-- a pair of a text and a tuple of texts -/
def IsP (x : Str) (ss : List Str) (v : V) (H : Hp) : Prop := ∃ p q, v = .ref p ∧ H p = some (.tup [.str x, q]) ∧ IsT ss q H
theorem IsP.ex {x : Str} {ss : List Str} {v : V} {H H' : Hp} (e : Ex H H') (h : IsP x ss v H) : IsP x ss v H' := by
  obtain ⟨p, q, h1, h2, h3⟩ := h
  exact ⟨p, q, h1, e _ _ h2, h3.ex e⟩
def spFullest (A : Adr) : Sp := fun vs H Q _ => ∃ (p : Addr) (rows : List (Str × Str)) (rts : List (Str × Str × Str)), vs = [.ref p] ∧ RtsAt A H p rows rts ∧ RiverOk rows ∧ RightsOk rows rts ∧ RetP (IsP (bestOf rows rts) (pass (wyS rows rts) (nms rts) (bestOf rows rts))) H Q
theorem w0_cons {rows : List (Str × Str)} (h : RiverOk rows) : ∃ ws, wns rows = w0Of rows :: ws := by
  have := h.good.ne
  cases rows with
  | nil => exact absurd rfl this
  | cons r rs => exact ⟨wns rs, rfl⟩
theorem bestW_take {wy : Str → List Str} {ns : List Str} {b : Str} {ws : List Str} {i : Nat} {w : Str} (h : ws[i]? = some w) : bestW wy ns b (ws.take (i + 1)) = stepW wy ns (bestW wy ns b (ws.take i)) w := by
  obtain ⟨hi, e⟩ := List.getElem?_eq_some_iff.mp h
  unfold bestW
  rw [List.take_succ_eq_append_getElem hi, List.foldl_append, e]
  rfl
section
variable {P : Program} {w : World} {K : PySem.W.Frag} {mg : Str → Option Value} {base : Heap} {A : Adr}
/-- rights.passing(x) -/
theorem ep_pass {σ : L2.St} {H : Hp} {ta te : TE} {p : Addr} {x : Str} {rows : List (Str × Str)} {rts : List (Str × Str × Str)} {E : XK} (ho : Ev ta σ H (.ref p)) (hx : Ev te σ H (.str x)) (hR : RtsAt A H p rows rts) (hok : RightsOk rows rts) (hm : x ∈ wns rows) :
    EvP (tMeth A.cR "passing" (spRPassing A) [] E ta (tCons te tNil)) σ H (IsT (pass (wyS rows rts) (nms rts) x)) := by
  obtain ⟨dx, pr, an, ae, aw, as_, ke, kw, ks, h1, _⟩ := id hR
  refine ep_meth ho h1 (flR_passing _ _ _ _ _) (ea_p (ea_cons hx ea_nil)) fun vs H1 e1 hvs Q q => ?_
  subst hvs
  exact ⟨p, x, rows, rts, rfl, hR.ex e1, hok, hm, q⟩
theorem scFullest : FnScope ["rights", "best", "weir"] ["rights"] (defScope sFullest) := ⟨rfl, rfl, rfl, by decide +kernel, rfl, by decide +kernel, by decide +kernel⟩
theorem ok_fullest (T : Txt K mg A) : FnOk P w K mg base CX0 3 A.fFullest A.dFullest ["rights"] (spFullest A) := by
  have GP : FnOk P w K mg base CX0 2 A.fRPassing A.dRPassing ["self", "weir"] (spRPassing A) := ok_rPassing T
  refine T.fnFullest.ok scFullest (fun vs H Q E h => ?_) (fun cdv AA outer s H vs Q E hr h => ?_)
  · obtain ⟨p, rows, rts, rfl, _⟩ := h
    rfl
  · obtain ⟨p, rows, rts, rfl, hR, hrok, hok, k⟩ := h
    obtain ⟨dx, pr, an, ae, aw, as_, ke, kw, ks, h1, h2, h3, h4, h5, h6, h7, h8, h9⟩ := id hR
    obtain ⟨dy, vw, vl, vc, kc, g1, g2, g3, g4, g5⟩ := id h2
    obtain ⟨ws, ews⟩ := w0_cons hrok
    have hw0 : w0Of rows ∈ wns rows := by rw [ews]; exact List.mem_cons_self
    have best_in : ∀ i, bestW (wyS rows rts) (nms rts) (w0Of rows) ((wns rows).take i) ∈ wns rows := fun i => by
      rcases best_mem (wy := wyS rows rts) (ns := nms rts) ((wns rows).take i) (w0Of rows) with h | h
      · rw [h]; exact hw0
      · exact List.mem_of_mem_take h
    refine ⟨_, pss_cons (ps_set (i := 1) scFullest.nd rfl (.inl rfl) (pe_ix ix_tup (pe_fld (pe_fld (pv 0) rfl) rfl) pe_int (fun _ _ => rfl)))
      (pss_cons (ps_for PassesOwn.never rfl (pi_tup (pe_fld (pe_fld (pv 0) rfl) rfl)) (pg_name (i := 2) scFullest.nd rfl (Or.inl rfl))
        (pss_one (ps_if (pt_cmpR op_gt (pe_callB call_len_seq (by rfl) T.b_len PySem.boot_len (pa_cons (pe_meth (pv 0) T.clR T.mtRPassing GP hr T.bdRPassing .nil pass0 (pa_cons (pv 2) pa_nil)) pa_nil))
            (pe_callB call_len_seq (by rfl) T.b_len PySem.boot_len (pa_cons (pe_meth (pv 0) T.clR T.mtRPassing GP hr T.bdRPassing .nil pass0 (pa_cons (pv 1) pa_nil)) pa_nil)) (nomark _))
          (pss_one (ps_set (i := 1) scFullest.nd rfl (.inl rfl) (pv 2))) pss_nil)))
      (pss_one (ps_ret (pe_tup (pa_cons (pv 1) (pa_cons (pe_meth (pv 0) T.clR T.mtRPassing GP hr T.bdRPassing .nil pass0 (pa_cons (pv 1) pa_nil)) pa_nil)))))), ?_⟩
    refine q_asg (v := .str (w0Of rows)) (ev_ixT (ev_fld (ev_fld (ev_var rfl) h1 T.clR T.nR_river (flR_river _ _ _ _ _)) g1 T.clV T.nV_weirs (flV_w _ _ _)) ev_c (st_of g2) (at_nat (n := 0) (by show ((wns rows).map V.str)[0]? = _; rw [ews]; rfl))) fun H1 e1 => ?_
    refine q_forT (ev_fld (ev_fld (ev_var rfl) (e1 _ _ h1) T.clR T.nR_river (flR_river _ _ _ _ _)) (e1 _ _ g1) T.clV T.nV_weirs (flV_w _ _ _)) (st_of (e1 _ _ g2))
      (fun i σ' H' => ∃ v, σ' = [some (.ref p), some (.str (bestW (wyS rows rts) (nms rts) (w0Of rows) ((wns rows).take i))), v] ∧ Ex H H') (fun H2 e2 => ⟨none, rfl, e1.trans e2⟩) (fun i σ' H' _ ⟨_, _, e⟩ => st_of (e _ _ g2)) ?_ ?_
    · rintro i x σ' H' hx ⟨v, rfl, e2⟩
      obtain ⟨wx, hwx⟩ : ∃ wx, (wns rows)[i]? = some wx := by
        have hi := (List.getElem?_eq_some_iff.mp hx).1
        rw [List.length_map] at hi
        exact ⟨_, List.getElem?_eq_getElem hi⟩
      have := item_str hx hwx
      subst this
      have hwm := List.mem_of_getElem? hwx
      have lenP : ∀ {te : TE} {σ : L2.St} {H1 : Hp} {y : Str}, Ex H H1 → y ∈ wns rows → Ev te σ H1 (.str y) → σ[0]? = some (some (.ref p)) → Ev (tCB (rLenS K) (tCons (tMeth A.cR "passing" (spRPassing A) [] E0 (tVar 0) (tCons te tNil)) tNil)) σ H1 (.int (pass (wyS rows rts) (nms rts) y).length) := fun {te σ H1 y} e hy ht h0 =>
        ev_lenP ((ep_pass (ev_var h0) ht (hR.ex e) hok hy).imp fun v H' _ z => let ⟨q, z1, z2⟩ := z.sq (K := K); ⟨q, _, z1, .inr z2, by simp⟩)
      have hc : EvT (tTest (tOp (rI0 fun i j => .bl (decide (j < i))) (tCB (rLenS K) (tCons (tMeth A.cR "passing" (spRPassing A) [] E0 (tVar 0) (tCons (tVar 2) tNil)) tNil)) (tCB (rLenS K) (tCons (tMeth A.cR "passing" (spRPassing A) [] E0 (tVar 0) (tCons (tVar 1) tNil)) tNil))))
          [some (.ref p), some (.str (bestW (wyS rows rts) (nms rts) (w0Of rows) ((wns rows).take i))), some (.str wx)] H' (decide ((pass (wyS rows rts) (nms rts) (bestW (wyS rows rts) (nms rts) (w0Of rows) ((wns rows).take i))).length < (pass (wyS rows rts) (nms rts) wx).length)) :=
        et_test (ev_cmpI (f := fun i j => decide (j < i)) (lenP e2 hwm (ev_var rfl) rfl) (lenP e2 (best_in i) (ev_var rfl) rfl) (by rw [decide_eq_decide]; omega))
      by_cases hlt : (pass (wyS rows rts) (nms rts) (bestW (wyS rows rts) (nms rts) (w0Of rows) ((wns rows).take i))).length < (pass (wyS rows rts) (nms rts) wx).length
      · refine s_when (b := true) (et_is hc (decide_eq_true hlt)) (fun _ H3 e3 => s_asg (ev_var rfl) fun H4 e4 => ⟨some (.str wx), ?_, (e2.trans e3).trans e4⟩) (fun h => nomatch h)
        rw [bestW_take hwx]
        unfold stepW
        rw [if_pos hlt]
        rfl
      · refine s_when (b := false) (et_is hc (decide_eq_false hlt)) (fun h => nomatch h) (fun _ H3 e3 => ⟨some (.str wx), ?_, e2.trans e3⟩)
        rw [bestW_take hwx]
        unfold stepW
        rw [if_neg hlt]
        rfl
    · rintro σ' H' ⟨v, rfl, e2⟩
      have el : (wns rows).take (((rows.map (·.1)).map V.str).length) = wns rows := List.take_of_length_le (by simp)
      have eb := best_in (((rows.map (·.1)).map V.str).length)
      rw [el] at eb ⊢
      refine s_retP (P := IsP (bestOf rows rts) (pass (wyS rows rts) (nms rts) (bestOf rows rts))) ?_ fun v H3 e3 z => k v H3 (e2.trans e3) z
      intro H3 e3 Q3 q3
      refine (eap_cons (P := fun v _ => v = .str (bestOf rows rts)) (fun _ _ _ _ z => z) (ep_of (ev_var rfl)) (eap_cons (P := IsT (pass (wyS rows rts) (nms rts) (bestOf rows rts))) (fun _ _ _ e z => z.ex e) (ep_pass (ev_var rfl) (ev_var rfl) (hR.ex e2) hok eb) eap_nil)) H3 e3 _ fun vs H4 e4 ⟨v1, r1, ev, hv1, v2, r2, er, hv2, hr2⟩ => ?_
      subst ev er hv1 hr2
      refine ⟨by show 2 ≤ sizeLine; decide, fun q hq => q3 _ _ (e4.trans (Ex.new hq)) ⟨q, v2, rfl, upd_same, hv2.ex (Ex.new hq)⟩⟩
end
end Wk

/-! A lambda of one parameter, made and called by a built-in. -/
namespace Wk
open PySem PySem.Spec PyProof.Rows L2 Evl LamX
/-- a scope with one name of its own, nm; the others captured or global -/
structure Lam1 (sc scope : Scope) (nm : Str) : Prop where
  kind : scope.kind = .function
  co : scope.isCoroutine = false
  gen : scope.isGenerator = false
  own : ∀ y ∈ scope.names, y.2 = .local → y.1 = nm
  cell : ∀ y ∈ scope.names, y.2 ≠ .cell
  loc : scope.names.lookup nm = some .local
  free : ∀ y ∈ scope.names, y.2 = .free → sc.names.lookup y.1 = some .cell ∨ sc.names.lookup y.1 = some .free
def lam1B (sc scope : Scope) (nm : Str) : Bool :=
  decide (scope.kind = .function) && !scope.isCoroutine && !scope.isGenerator && decide (scope.names.lookup nm = some .local) &&
    scope.names.all fun y => (!decide (y.2 = .local) || decide (y.1 = nm)) && !decide (y.2 = .cell) && (!decide (y.2 = .free) || decide (sc.names.lookup y.1 = some .cell) || decide (sc.names.lookup y.1 = some .free))
theorem lam1_by {sc scope : Scope} {nm : Str} (h : lam1B sc scope nm = true) : Lam1 sc scope nm := by
  unfold lam1B at h
  simp only [Bool.and_eq_true, Bool.or_eq_true, Bool.not_eq_true', decide_eq_true_eq, decide_eq_false_iff_not, List.all_eq_true] at h
  obtain ⟨⟨⟨⟨h1, h2⟩, h3⟩, h4⟩, h5⟩ := h
  refine ⟨h1, h2, h3, fun y hy e => ?_, fun y hy => (h5 y hy).1.2, h4, fun y hy e => ?_⟩
  · rcases (h5 y hy).1.1 with z | z
    · exact absurd e z
    · exact z
  · rcases (h5 y hy).2 with (z | z) | z
    · exact absurd e z
    · exact .inl z
    · exact .inr z
section
variable {X : Cx} {pins : List (Addr × Obj)} {σ : L2.St} {H : Hp} {s : Shared} {scope : Scope} {nm : Str}
theorem Lam1.has (L : Lam1 X.env.scope scope nm) (ok : X.Ok) : ∀ y ∈ scope.names, y.2 = .free → ∃ c, X.env.cells.lookup y.1 = some c := fun y hy e => by
  rcases L.free y hy e with k | k
  · exact ok.has _ (.inl k)
  · exact ok.has _ (.inr k)
/-- the body's start: nm holds v -/
theorem lam1_start {A : Around} {E : XK} {f c' : Addr} {h₁ : Heap} {tk j : Nat} {v : V} {u : Value} (I : Inv X pins σ H s) (L : Lam1 X.env.scope scope nm) (hN : X.N.Nodup) (hj : X.N[j]? = some nm) (e0 : Env0 X.prog X.w X.K X.mg X.base A X.stack s H) (hd : A.handled = none)
    (rv : L2.RelV v u) (hns : h₁.Ns s.heap.objs.size fun y => ([(nm, u)] : List (Str × Value)).reverse.lookup y) (kp : ∀ b o, s.heap.get? b = some o → h₁.get? b = some o) :
    Inv (lamCx X A X.stack s H E scope f c') [] (σ.set j (some v)) H { s with heap := h₁, toks := tk } := by
  have hfree := L.has I.ok
  have cm : ∀ {y c}, (cloFrom X.env.cells scope.names []).lookup y = some c → X.env.cells.lookup y = some c := fun {y c} e => by
    rcases cloFrom_mem (PySem.mem_of_lookup e) with hm | ⟨h1, h2⟩
    · cases hm
    · obtain ⟨c1, hc⟩ := hfree _ h1 rfl
      have hc : X.env.cells.lookup y = some c1 := hc
      rw [hc] at h2
      have e2 : c = c1 := h2
      rw [e2]
      exact hc
  have look : ∀ {y}, scope.names.lookup y = some .free → ∃ c, (cloFrom X.env.cells scope.names []).lookup y = some c := fun {y} hl =>
    mem_lookup (cloFrom_has (cells := X.env.cells) (acc := []) (PySem.mem_of_lookup hl))
  have cellK : ∀ {c : Addr} {v : Option Value}, s.heap.IsCell c v → h₁.IsCell c v := fun {c v} ⟨o, ho, hd⟩ => ⟨_, kp _ _ ho, hd⟩
  have noA : ∀ b : Addr, b ∉ (lamCx X A X.stack s H E scope f c').ex := fun b z => absurd (show b ∈ ([] : List Addr) from z) (by simp)
  have okL : (lamCx X A X.stack s H E scope f c').Ok := by
    refine ⟨e0.mod, L.kind, rfl, rfl, Nat.le_refl _, fun y z c e1 e2 => I.ok.inj y z c (cm e1) (cm e2), fun y hy => ?_, fun y c z _ => ?_, fun _ => hd, Around.frames_deeper e0.frames, .inr ⟨rfl, rfl⟩, fun b z => absurd z (noA b), e0.bs, e0.bsz, fun b _ _ => noA b,
      fun b z => absurd z (noA b), e0.funs, e0.frf⟩
    · have hy : scope.names.lookup y = some .cell ∨ scope.names.lookup y = some .free := hy
      rcases hy with hy | hy
      · exact absurd rfl (L.cell _ (PySem.mem_of_lookup hy))
      · exact look hy
    · have z : false = true := z
      cases z
  refine ⟨okL, rfl, e0.bare, Un.kept kp, ⟨_, hns, fun i y w e1 e2 e3 => ?_⟩, fun y c e => ?_, e0.hok.fresh (Nat.le_refl _), fun y c e => I.freeC y c (cm e), fun q hq => absurd (show q ∈ ([] : List (Addr × Obj)) ++ [] from hq) (by simp), e0.hok.kept kp, ?_⟩
  · have e1 : X.N[i]? = some y := e1
    by_cases hij : i = j
    · subst hij
      rw [hj] at e1
      cases e1
      have hil : i < σ.length := by
        have h1 := (List.getElem?_eq_some_iff.mp hj).1
        rw [I.len]
        exact h1
      rw [List.getElem?_set_self hil] at e2
      cases e2
      refine ⟨u, rv, .inl ⟨L.loc, ?_⟩⟩
      simp
    · rw [List.getElem?_set_ne (Ne.symm hij)] at e2
      have hne : y ≠ nm := fun z => hij (by
        subst z
        have a1 := (List.getElem?_eq_some_iff.mp e1).1
        exact (List.getElem?_inj a1 hN).mp (e1.trans hj.symm))
      have e3 : Vis scope y := e3
      rcases e3 with k | k | k
      · exact absurd (L.own _ (PySem.mem_of_lookup k) rfl) hne
      · exact absurd rfl (L.cell _ (PySem.mem_of_lookup k))
      · obtain ⟨m, hn, hl⟩ := I.loc
        have hvis : Vis X.env.scope y := (L.free _ (PySem.mem_of_lookup k) rfl).elim (fun k => .inr (.inl k)) (fun k => .inr (.inr k))
        obtain ⟨w', r, q⟩ := hl i y w e1 e2 hvis
        obtain ⟨c2, h2⟩ := look k
        refine ⟨w', r, .inr ⟨.inr k, c2, h2, ?_⟩⟩
        have c1 := cm h2
        rcases q with ⟨k', _⟩ | ⟨_, c3, e', z⟩
        · have k' : X.env.scope.names.lookup y = some .local := k'
          rcases L.free _ (PySem.mem_of_lookup k) rfl with k2 | k2
          · rw [show X.env.scope.names.lookup y = _ from k2] at k'
            cases k'
          · rw [show X.env.scope.names.lookup y = _ from k2] at k'
            cases k'
        · rw [c1] at e'
          cases e'
          exact cellK z
  · obtain ⟨w', z⟩ := I.cell y c (cm e)
    exact ⟨w', cellK z⟩
  · rw [List.length_set]
    exact I.len
/-- the lambda's object -/
abbrev lamObj (X : Cx) (params : Arguments) (body : Expr) (scope : Scope) (pm : Value) (c' : Addr) (ctv : Value) : Obj :=
  PySem.W.kla_obj "<lambda>" (X.env.qual ++ "<lambda>") params body scope (cloFrom X.env.cells scope.names []) pm c' ctv
/-- it is called with one value, from anywhere below the maker's frame -/
theorem run_lam {A : Around} {f c' : Addr} {pm ctv : Value} {params : Arguments} {body : Expr} {k j : Nat} {v : V} {u : Value} {Q : VK} {tb : TE} (I : Inv X pins σ H s) (L : Lam1 X.env.scope scope nm) (hN : X.N.Nodup) (hj : X.N[j]? = some nm)
    (hf : s.heap.get? f = some (lamObj X params body scope pm c' ctv)) (hc : H c' = some (CodeO c' (X.env.qual ++ "<lambda>"))) (hbind : ∀ u : Value, bindArgs (PySem.W.kla_fn "<lambda>" (X.env.qual ++ "<lambda>") params body scope (cloFrom X.env.cells scope.names []) pm (.ref c') ctv) ⟨[u], []⟩ = pure [(nm, u)])
    (e0 : Env0 X.prog X.w X.K X.mg X.base A X.stack s H) (hr : Room (k + 1) A) (rv : L2.RelV v u)
    (hbody : ∀ (A : Around) (s : Shared) (H : Hp), Room k (A.deeper (lamEnv X scope s.heap.objs.size f c')) → PE (lamCx X A X.stack s H C8.E0 scope f c').nox body tb)
    (h : tb (σ.set j (some v)) H Q) : wpAny (model X.prog X.w) A (call (.ref f) [u]) (fun w' s' => CE X.stack X.prog X.w H s Q w' s') (fun _ _ => False) s := by
  obtain ⟨⟨oc, vs, t, hoc, hdc, hvc⟩, _, _⟩ := I.hok c' _ hc
  refine wpAny_call (codeAny_mono (R := CR C8.CX0 X.stack X.prog X.w H s Q C8.E0) ?_ fun r s' hq => ?_)
  · refine PySem.W.kla_callFunE hr.depth hf rfl L.co L.gen rfl ⟨c', oc, vs, t, rfl, hoc, hdc, hvc⟩ ?_
    rw [hbind]
    refine wpAny_pure (wpAny_newFunctionEnv L.cell (fun y hy => by
      have : y = (nm, u) := by simpa using hy
      rw [this]
      exact L.loc) (fun h₁ hns hsb => ⟨I.nolimit.fresh _ hsb, ?_⟩) L.kind)
    show codeAny _ _ (.expr body (lamEnv X scope s.heap.objs.size f c')) _ _
    have kp : ∀ b o, s.heap.get? b = some o → h₁.get? b = some o := fun b o e => hsb.extBut b o (Nat.ne_of_lt (Heap.lt_size e)) (Heap.get?_push_of_some _ e)
    have J : Inv (lamCx X A X.stack s H C8.E0 scope f c') [] (σ.set j (some v)) H { s with heap := h₁, toks := s.toks + ([(nm, u)] : List (Str × Value)).length } :=
      lam1_start I L hN hj e0 hr.hd rv hns kp
    refine PySem.W.kla_codeExpr (wpAny_mono ((hbody A s H (hr.deeper _)).run [] _ _ H Q (J.wish _) h) (fun v s' hq => ?_) fun e s' hq => False.elim hq)
    obtain ⟨w', H', J', rv, q⟩ := hq
    exact ⟨w', H', J'.os, J'.bare, J'.base, J'.hok, rv, q⟩
  · cases r with
    | error e => exact False.elim hq
    | ok fl =>
      cases fl with
      | ret u => exact hq
      | next => exact False.elim hq
      | brk => exact False.elim hq
      | cont => exact False.elim hq
end
end Wk

/-! sorted(tuple of texts, key=lambda of one parameter to whole numbers). -/
namespace Wk
open PySem PySem.Spec PyProof.Rows L2 Evl LamX
/-- sorted by a whole number -/
def srt (key : Str → Int) (ss : List Str) : List Str := ss.mergeSort fun a b => decide (key a ≤ key b)
theorem srt_data (key : Str → Int) (ss : List Str) : ss.mergeSort (PySem.W.dataLe false fun s => PyData.int (key s)) = srt key ss := by
  unfold srt
  congr 1
  funext a b
  unfold PySem.W.dataLe PySem.W.sortLe
  rw [Bool.eq_iff_iff]
  simp [PySem.W.keyToks, PyProof.Rows.lexLt, PyProof.Rows.itemLt, listOrd, itemOrd]
theorem each_vals : ∀ {vs : List Value} {ss : List Str}, PySem.W.EachIs (fun v s => L2.RelV (.str s) v) vs ss → L2.Vals (ss.map V.str) vs
  | _, _, .nil => .nil
  | _, _, .cons h t => .cons h (each_vals t)
theorem vals_each : ∀ {vs : List Value} {ss : List Str}, L2.Vals (ss.map V.str) vs → PySem.W.EachIs (fun v s => L2.RelV (.str s) v) vs ss
  | _, [], .nil => .nil
  | _, _ :: _, .cons h t => .cons h (vals_each t)
theorem ints_each {h : Heap} : ∀ {vs : List Value} {ns : List Int}, IntsAre vs ns → PySem.W.EachIs (fun v d => ∃ as, Reads h v d as) vs (ns.map PyData.int)
  | _, _, .nil => .nil
  | _, _, .cons n t r => .cons ⟨[], .int n t⟩ (ints_each r)
theorem each_at {vs : List Value} {ss : List Str} (h : L2.Vals (ss.map V.str) vs) {j : Nat} {u : Value} (e : vs[j]? = some u) : ∃ x, ss[j]? = some x ∧ L2.RelV (.str x) u := by
  induction ss generalizing vs j with
  | nil => cases h; simp at e
  | cons a r ih =>
    cases h with
    | cons h1 h2 =>
      cases j with
      | zero =>
        simp at e
        subst e
        exact ⟨a, rfl, h1⟩
      | succ j => exact ih h2 (by simpa using e)
theorem alike_ints (ns : List Int) : PySem.W.AllAlike (ns.map PyData.int) := fun d hd d' hd' => by
  obtain ⟨i, _, rfl⟩ := List.mem_map.mp hd
  obtain ⟨j, _, rfl⟩ := List.mem_map.mp hd'
  simp [PySem.W.alike]
theorem sortable_ints (ns : List Int) : PySem.W.Sortable (ns.map PyData.int) := .inr fun d hd => by
  obtain ⟨i, _, rfl⟩ := List.mem_map.mp hd
  exact ⟨nofun, nofun⟩
section
variable {X : Cx} {pins : List (Addr × Obj)} {σ : L2.St} {H : Hp} {s : Shared} {scope : Scope} {nm : Str}
theorem fp_frs (I : Inv X pins σ H s) {b : Addr} (h : FpOk X pins H b) : b ∉ frs X.stack := fun z => by
  rcases List.mem_cons.mp (I.stkSub b z) with e | e
  · exact h.2.1 e
  · exact h.2.2.1 e
theorem fp_of {H' : Hp} {b : Addr} (h : FpOk X pins H b) (n : H' b = none) : FpOk X pins H' b := ⟨n, h.2⟩
theorem turn_fp {b : Addr} {h' : Heap} {t' : Nat} (I : Inv X pins σ H s) (hk : Heap.SameBut b s.heap h') (h : FpOk X pins H b) : Inv X pins σ H { s with heap := h', toks := t' } :=
  I.turned (fun c o n e => (hk.2 c n).trans e) h.1 h.2.1 h.2.2.2.1 h.2.2.2.2.1 h.2.2.2.2.2
/-- the new list is known from now on, the store of keys is out of reach -/
theorem inv_sorted {l kS : Addr} {h' : Heap} {tk c : Nat} {out : List Value} {xs : List V} (I : Inv X pins σ H s) (fl : FpOk X pins H l) (fk : FpOk X pins H kS) (hk : PySem.W.KeepsBut l (PySem.W.hideAll s.heap [kS]) h')
    (hl : h'.get? l = some (seqObj "list" out.toArray c)) (rv : Vals xs out) (hz : xs.length ≤ sizeLine) : Inv X pins σ (upd H l (.lst xs)) { s with heap := h', toks := tk } := by
  have k : ∀ b o, b ≠ l → b ≠ kS → s.heap.get? b = some o → h'.get? b = some o := fun b o n1 n2 e => hk b o n1 (PySem.W.hideAll_get _ e (by simpa using n2))
  have sm : ∀ b u, H b = some u → b ≠ l ∧ b ≠ kS := fun b u e => ⟨ne_of_none e fl.1, ne_of_none e fk.1⟩
  have nch : ∀ b, b ∉ [l, kS] → b ≠ l ∧ b ≠ kS := fun b h => ⟨fun z => h (by simp [z]), fun z => h (by simp [z])⟩
  refine I.step (g' := s.gens) (d' := s.drawn) (ch := [l, kS]) (fun b hb => ?_) (fun b o _ _ n e _ => k b o (nch b n).1 (nch b n).2 e) (fun b o _ _ n e _ => ⟨o.slots, k b o (nch b n).1 (nch b n).2 e⟩)
    (fun b o n e z => by rw [upd_ne (nch b n).1]; exact z) (fun b o n e => ⟨o, k b o (nch b n).1 (nch b n).2 e⟩) (fun b xs e => by rw [upd_ne (sm b _ e).1]; exact e) (fun b o u e => by rw [upd_ne (sm b _ e).1]; exact e) (fun b ps e => ⟨#[], by rw [upd_ne (sm b _ e).1, e]; simp⟩) (fun m hn => ?_) (fun b u e => ?_) I.bare
  · have hb : b = l ∨ b = kS := by simpa using hb
    rcases hb with e | e
    · rw [e]
      exact ⟨fl.2.2.2.1, fl.2.1, fl.2.2.2.2.1, fl.2.2.2.2.2⟩
    · rw [e]
      exact ⟨fk.2.2.2.1, fk.2.1, fk.2.2.2.2.1, fk.2.2.2.2.2⟩
  · obtain ⟨ob, es, ep, ho, r⟩ := hn
    exact ⟨ob, es, ep, k _ ob (Ne.symm fl.2.1) (Ne.symm fk.2.1) ho, r⟩
  · by_cases hb : b = l
    · subst hb
      rw [upd_same] at e
      cases e
      exact ⟨hz, out, c, rv, hl⟩
    · rw [upd_ne hb] at e
      refine (I.hok b u e).stay (fun d v hd q => k d v ?_ ?_ q) (fun d q => by rw [upd_ne (sm d _ q).1]; exact q) fun d xs q => by rw [upd_ne (sm d _ q).1]; exact q
      · rcases hd with z | z
        · rw [z]; exact hb
        · exact (sm d _ z).1
      · rcases hd with z | z
        · rw [z]; exact (sm b _ e).2
        · exact (sm d _ z).2
/-- sorted(p, key=f), f the lambda's object -/
theorem sort_core {p f c' : Addr} {pm ctv : Value} {params : Arguments} {body : Expr} {k j : Nat} {Q : VK} {tb : TE} {ss : List Str} {key : Str → Int} {E : Value → Shared → Prop} (I : Inv X pins σ H s) (hp : SqT X.K H p (ss.map V.str)) (hz : ss.length ≤ 1000)
    (L : Lam1 X.env.scope scope nm) (hN : X.N.Nodup) (hj : X.N[j]? = some nm) (hf : s.heap.get? f = some (lamObj X params body scope pm c' ctv)) (hfn : H f = none) (hfs : f ∉ frs X.stack) (hc : H c' = some (CodeO c' (X.env.qual ++ "<lambda>")))
    (hbind : ∀ u : Value, bindArgs (PySem.W.kla_fn "<lambda>" (X.env.qual ++ "<lambda>") params body scope (cloFrom X.env.cells scope.names []) pm (.ref c') ctv) ⟨[u], []⟩ = pure [(nm, u)]) (hr : Room (k + 3) X.A)
    (hbody : ∀ (A : Around) (s : Shared) (H : Hp), Room k (A.deeper (lamEnv X scope s.heap.objs.size f c')) → PE (lamCx X A X.stack s H C8.E0 scope f c').nox body tb)
    (hk : ∀ x ∈ ss, ∀ H2, Ex H H2 → ∀ Q2 : VK, (∀ H3, Ex H2 H3 → Q2 (.int (key x)) H3) → tb (σ.set j (some (.str x))) H2 Q2)
    (h : ∀ l H4, H l = none → Ex H H4 → H4 l = some (.lst ((srt key ss).map V.str)) → Q (.ref l) H4) :
    wpAny (model X.prog X.w) X.A (call (.builtin "sorted") [.ref p] [(Str.ofString "key", .ref f)]) (EP X pins σ Q) E s := by
  obtain ⟨its, rv, ⟨o, ho, hcls, n, hd⟩, _⟩ := I.tuple hp
  have hlen := rv.length
  rw [List.length_map] at hlen
  have hZ : its.length ≤ sizeLine := by rw [← hlen, sizeLine_eq]; omega
  have hr2 : Room (k + 1) X.A.in1.in1 := hr.in1.in1
  refine call_function_entry_kw kind_sorted plain_sorted entry_sorted (ksk_s1 _ _) ?_
  unfold Builtin.«sorted»
  refine wpAny_bind (m := checkCount "sorted" 1 1 _) (wpAny_pure ?_)
  refine wpAny_bind (wpAny_collect_seq p (.inr rfl) ho hcls hd (fun h1 k1 => ?_) (by rw [List.size_toArray]; exact hZ))
  rw [List.toList_toArray]
  refine wpAny_bind (wpAny_newList ?_ hZ)
  have I1 : Inv X pins σ H { s with heap := h1, toks := s.toks } := I.kept k1
  have I2 : Inv X pins σ H { s with heap := h1.push (seqObj "list" its.toArray 0), toks := s.toks } := I1.kept fun b o e => Heap.get?_push_of_some _ e
  have nl : H h1.objs.size = none := I1.hok.fresh (Nat.le_refl _)
  have fl : FpOk X pins H h1.objs.size := I1.fpOk (Nat.le_refl _) nl
  have hf2 : (h1.push (seqObj "list" its.toArray 0)).get? f = some (lamObj X params body scope pm c' ctv) := Heap.get?_push_of_some _ (k1 _ _ hf)
  have ho2 : (h1.push (seqObj "list" its.toArray 0)).get? h1.objs.size = some (seqObj "list" its.toArray 0) := Heap.get?_push_size _ rfl
  have nlf : h1.objs.size ≠ f := fun z => Nat.ne_of_gt (Heap.lt_size (k1 _ _ hf)) z
  show wpAny _ _ _ _ _ { s with heap := h1.push (seqObj "list" its.toArray 0) }
  generalize hl : h1.objs.size = l at *
  generalize hh2 : h1.push (seqObj "list" its.toArray 0) = h2 at *
  refine wpAny_bind (wpAny_holding (wpAny_call_entry_kw slot_list_sort ⟨_, ho2, rfl⟩ entry_list_sort ?body (ksk_l1 _ _)))
  case body =>
    show wpAny (model X.prog X.w) X.A.in1.in1 (Builtin.«list.sort» ⟨[.ref l], [(Str.ofString "key", .ref f)]⟩) _ _ _
    rw [ksk_t1]
    have s1 := Heap.SameBut.update h2 l (Obj.mapSeq fun _ => (#[] : Array Value))
    obtain ⟨e1, ho3⟩ : ∃ e1, (h2.update l (Obj.mapSeq fun _ => (#[] : Array Value))).get? l = some (seqObj "list" #[] e1) := ⟨_, get?_update_seq ho2 fun _ => #[]⟩
    have I3 : Inv X pins σ H { s with heap := h2.update l (Obj.mapSeq fun _ => (#[] : Array Value)), toks := s.toks } := turn_fp (s := { s with heap := h2, toks := s.toks }) I2 s1 fl
    have hf3 := (s1.2 f nlf.symm).trans hf2
    unfold ksk_tree
    refine wpAny_bind (listItems_at ho2 rfl ?_)
    refine wpAny_bind (listUpdate_at ho2 rfl ?_ (by rw [List.size_toArray]; exact hZ) (Nat.zero_le _))
    show wpAny _ _ _ _ _ { s with heap := h2.update l (Obj.mapSeq fun _ => (#[] : Array Value)) }
    generalize h2.update l (Obj.mapSeq fun _ => (#[] : Array Value)) = h3 at *
    refine wpAny_bind (seqEpoch_at ho3 rfl ?_)
    refine wpAny_bind (wpAny_newTuple ?_ (by rw [List.toList_toArray]; exact hZ))
    refine wpAny_bind (wpAny_newList ?_ (Nat.zero_le _))
    refine wpAny_holding ?_
    have I4 : Inv X pins σ H { s with heap := (h3.push (seqObj "tuple" its.toArray 0)), toks := s.toks } := I3.kept (s := { s with heap := h3, toks := s.toks }) fun b o e => Heap.get?_push_of_some _ e
    have I5 : Inv X pins σ H { s with heap := (h3.push (seqObj "tuple" its.toArray 0)).push (seqObj "list" #[] 0), toks := s.toks } := I4.kept (s := { s with heap := (h3.push (seqObj "tuple" its.toArray 0)), toks := s.toks }) fun b o e => Heap.get?_push_of_some _ e
    have nS : H (h3.push (seqObj "tuple" its.toArray 0)).objs.size = none := I4.hok.fresh (Nat.le_refl _)
    have fS : FpOk X pins H (h3.push (seqObj "tuple" its.toArray 0)).objs.size := I4.fpOk (Nat.le_refl _) nS
    have hf5 : ((h3.push (seqObj "tuple" its.toArray 0)).push (seqObj "list" #[] 0)).get? f = some (lamObj X params body scope pm c' ctv) := Heap.get?_push_of_some _ (Heap.get?_push_of_some _ hf3)
    have ho5 : ((h3.push (seqObj "tuple" its.toArray 0)).push (seqObj "list" #[] 0)).get? l = some (seqObj "list" #[] e1) := Heap.get?_push_of_some _ (Heap.get?_push_of_some _ ho3)
    have hS5 : ((h3.push (seqObj "tuple" its.toArray 0)).push (seqObj "list" #[] 0)).get? (h3.push (seqObj "tuple" its.toArray 0)).objs.size = some (seqObj "list" #[] 0) := Heap.get?_push_size _ rfl
    have nSl : (h3.push (seqObj "tuple" its.toArray 0)).objs.size ≠ l := fun z => Nat.ne_of_gt (Heap.lt_size (Heap.get?_push_of_some (seqObj "tuple" its.toArray 0) ho3)) z
    have nSf : (h3.push (seqObj "tuple" its.toArray 0)).objs.size ≠ f := fun z => Nat.ne_of_gt (Heap.lt_size (Heap.get?_push_of_some (seqObj "tuple" its.toArray 0) hf3)) z
    show wpAny (model X.prog X.w) X.A.in1.in1 (ksk_rest l (.ref f) false its.toArray e1 (.ref (h3.push (seqObj "tuple" its.toArray 0)).objs.size)) _ _ { s with heap := (h3.push (seqObj "tuple" its.toArray 0)).push (seqObj "list" #[] 0) }
    generalize hkS : (h3.push (seqObj "tuple" its.toArray 0)).objs.size = kS at *
    generalize (h3.push (seqObj "tuple" its.toArray 0)).push (seqObj "list" #[] 0) = h5 at *
    unfold ksk_rest
    refine wpAny_bind (wpAny_rule ?_)
    rw [← Array.forIn_toList]
    simp only [List.toList_toArray]
    refine wpAny_bind (ksk_fold (fun i s' => ∃ (Hi : Hp) (g : Heap) (gs : Array GenState) (dr : Drawn) (tk : Nat) (kA : Array Value) (e : Nat), s' = { s with heap := g, gens := gs, drawn := dr, toks := tk } ∧ Inv X pins σ Hi s' ∧ Ex H Hi ∧ Hi l = none ∧ Hi kS = none ∧ Hi f = none ∧ g.get? kS = some (seqObj "list" kA e) ∧ g.get? l = some (seqObj "list" #[] e1) ∧ g.get? f = some (lamObj X params body scope pm c' ctv) ∧ IntsAre kA.toList ((ss.take i).map key)) its 0 _
      ⟨H, h5, s.gens, s.drawn, s.toks, #[], 0, rfl, I5, Ex.refl H, nl, nS, hfn, hS5, ho5, hf5, by simpa using IntsAre.nil⟩ ?step ?done)
    case step =>
      rintro i x s' hx ⟨Hi, g, gs, dr, tk, kA, e, rfl, J, eH, ql, qS, qf, gS, gl, gf, hka⟩
      simp only [Nat.zero_add] at hka ⊢
      obtain ⟨y, hy, ry⟩ := each_at rv hx
      have hi : i < ss.length := (List.getElem?_eq_some_iff.mp hy).1
      have hsz : kA.size ≤ ss.length := by
        have h1 := hka.length
        rw [Array.length_toList, List.length_map, List.length_take] at h1
        omega
      have gl' := fp_of fl ql
      have gk' := fp_of fS qS
      refine wpAny_bind (wpAny_attempt (wpAny_mono (run_lam (Q := fun v H3 => v = .int (key y) ∧ Ex Hi H3) J L hN hj gf (eH _ _ hc) hbind J.env0.in1.in1 hr2 ry hbody (hk y (List.mem_of_getElem? hy) Hi eH _ fun H3 e3 => ⟨rfl, e3⟩)) (fun u s'' hce => ?_) fun _ _ z => z.elim))
      obtain ⟨v0, H0, os0, ab0, un0, hok0, rv0, e0, eX⟩ := hce
      subst e0
      obtain ⟨g2, gs2, dr2, tk2, os2⟩ := s''
      obtain rfl : os2 = s.os := os0
      obtain ⟨t2, rfl⟩ : ∃ t, u = .int (key y) t := rv0
      have J2 : Inv X pins σ H0 { s with heap := g2, gens := gs2, drawn := dr2, toks := tk2 } := Inv.call (s := { s with heap := g, gens := gs, drawn := dr, toks := tk }) J (h' := g2) (g' := gs2) (d' := dr2) (t' := tk2) (ch := []) un0 hok0 ab0 (fun b z => absurd z (by simp))
      have nx : ∀ b : Addr, b ∉ ([] : List Addr) := fun b z => absurd z (by simp)
      have gS2 := un0.keep _ _ gS qS (fp_frs J gk') (nx _)
      have gl2 := un0.keep _ _ gl ql (fp_frs J gl') (nx _)
      have gf2 := un0.keep _ _ gf qf hfs (nx _)
      have ql2 := un0.free _ _ gl ql (nx _)
      have qS2 := un0.free _ _ gS qS (nx _)
      have qf2 := un0.free _ _ gf qf (nx _)
      try dsimp only
      have s1 := Heap.SameBut.update g2 kS (Obj.mapSeq (·.push (Value.int (key y) t2)))
      obtain ⟨c2, hc2⟩ : ∃ c2, (g2.update kS (Obj.mapSeq (·.push (.int (key y) t2)))).get? kS = some (seqObj "list" (kA.push (.int (key y) t2)) c2) := ⟨_, get?_update_seq gS2 (·.push (.int (key y) t2))⟩
      have ek : (ss.take (i + 1)).map key = (ss.take i).map key ++ [key y] := by rw [List.take_add_one, hy]; simp
      have ea : (kA.push (Value.int (key y) t2)).toList = kA.toList ++ [Value.int (key y) t2] := by simp
      refine wpAny_bind (listUpdate_at gS2 rfl ?_ (by rw [sizeLine_eq]; omega) (Nat.le_trans (Nat.le_of_eq (Array.size_push ..)) (by rw [sizeLine_eq]; omega)))
      refine wpAny_pure ⟨rfl, H0, _, gs2, dr2, tk2, kA.push (.int (key y) t2), c2, rfl, turn_fp (s := { s with heap := g2, gens := gs2, drawn := dr2, toks := tk2 }) (t' := tk2) J2 s1 (fp_of fS qS2), eH.trans eX, ql2, qS2, qf2, hc2, (s1.2 l nSl.symm).trans gl2, (s1.2 f nSf.symm).trans gf2, by rw [ea, ek]; exact ksk_snoc hka⟩
    case done =>
      rintro s' ⟨Hi, g, gs, dr, tk, kA, e, rfl, J, eH, ql, qS, qf, gS, gl, gf, hka⟩
      have hk' : IntsAre kA.toList (ss.map key) := by
        have e3 : ss.take (0 + its.length) = ss := List.take_of_length_le (by omega)
        rw [e3] at hka
        exact hka
      have hsz : kA.size = its.length := by
        have h1 := hk'.length
        rw [Array.length_toList, List.length_map] at h1
        omega
      have hE := ints_each (h := g) hk'
      try dsimp only
      refine wpAny_bind (listItems_at gS rfl ?_)
      refine PySem.W.keyH_end (s := { s with heap := g, gens := gs, drawn := dr, toks := tk }) (κ := PySem.W.dataKind g ((ss.map key).map PyData.int)) (h₁ := PySem.W.hideAll g [kS]) (fun b o _ q => PySem.W.of_hideAll _ q) (PySem.W.hideAll_none _ (by simp)) gS gl nSl
        (PySem.W.SortsAt.data (s := { s with heap := g, gens := gs, drawn := dr, toks := tk }) hE (alike_ints _) (sortable_ints _) (fun d hd => ?_)) hsz hZ fun h' tk' c kb gl' => ?_
      · obtain ⟨z, _, rfl⟩ := List.mem_map.mp hd
        have := hr2.un
        rw [PyData.depth]
        omega
      · have hko : PySem.W.KeyedOut false ((ss.map key).map PyData.int) its (PySem.W.sortVals (PySem.W.dataKind g ((ss.map key).map PyData.int)) false kA.toList its) := ⟨g, kA.toList, alike_ints _, rfl, hE⟩
        generalize PySem.W.sortVals (PySem.W.dataKind g ((ss.map key).map PyData.int)) false kA.toList its = out at hko gl'
        have hko2 := hko
        rw [List.map_map, show (PyData.int ∘ key) = fun s => PyData.int (key s) from rfl] at hko2
        have hv := each_vals (PySem.W.keyedOut_each (fun s => PyData.int (key s)) hko2 (vals_each rv))
        rw [srt_data] at hv
        have J3 := inv_sorted (s := { s with heap := g, gens := gs, drawn := dr, toks := tk }) (tk := tk') (xs := (srt key ss).map V.str) J (fp_of fl ql) (fp_of fS qS) kb gl' hv (by unfold srt; rw [List.length_map, List.length_mergeSort, sizeLine_eq]; omega)
        refine ⟨.none, rfl, wpAny_pure ⟨.ref l, rfl, .ref l, _, J3, rfl, h l _ nl (Ex.mut eH nl) upd_same⟩⟩
/-- the lambda's own reading is that of its body, the parameter set -/
def tSortLam (K : PySem.W.Frag) (T : List (Addr × Str)) (te tb : TE) (j : Nat) : TE := fun σ H Q => te σ H fun v H1 => ∃ (p : Addr) (ss : List Str) (key : Str → Int), v = .ref p ∧ SqT K H1 p (ss.map V.str) ∧ ss.length ≤ 1000 ∧ Tabs T H1 ∧
  (∀ x ∈ ss, ∀ H2, ExtN H1 H2 → ∀ Q2 : VK, (∀ H3, Ex H2 H3 → Q2 (.int (key x)) H3) → tb (σ.set j (some (.str x))) H2 Q2) ∧
  ∀ l H4, ExtN H1 H4 → Tabs T H4 → H4 l = some (.lst ((srt key ss).map V.str)) → Q (.ref l) H4
theorem ExtN.ex {H H1 H2 : Hp} (a : ExtN H H1) (b : Ex H1 H2) : ExtN H H2 := a.trans (ExtN.of b)
theorem pe_sortLam {e body : Expr} {te tb : TE} {T : List (Addr × Str)} {c P : Addr} {params : Arguments} {lpos kpos npos pos : Pos} {k j : Nat} (he : PA X [e] (tCons te tNil)) (TB : TabB X.base X.mg c P) (hcode : X.env.code = .ref c) (hm : (P, X.env.qual ++ "<lambda>") ∈ T) (hu : ∀ p ∈ T, p.1 = P → p.2 = X.env.qual ++ "<lambda>")
    (L : Lam1 X.env.scope scope nm) (hN : X.N.Nodup) (hj : X.N[j]? = some nm) (hr : Room (k + 3) X.A) (hg : Gl X "sorted") (hmg : X.mg "sorted" = none) (hbt : bootBuiltins "sorted" = some (.builtin "sorted"))
    (hbody : ∀ (f c' : Addr) (A : Around) (s : Shared) (H : Hp), Room k (A.deeper (lamEnv X scope s.heap.objs.size f c')) → PE (lamCx X A X.stack s H C8.E0 scope f c').nox body tb)
    (hbind : ∀ (f c' : Addr) (pm ctv u : Value), bindArgs (PySem.W.kla_fn "<lambda>" (X.env.qual ++ "<lambda>") params body scope (cloFrom X.env.cells scope.names []) pm (.ref c') ctv) ⟨[u], []⟩ = pure [(nm, u)] := by intros; rfl)
    (hdef : defaultsOf params X.env = ([], []) := by rfl)
    (he1 : backTo pos (starEach [e] X.env) = (false, eval e X.env) :: backTo pos (starEach [] X.env) := by rfl) (hpl : (backTo pos (starEach [e] X.env)).any (·.1) = false := by rfl)
    (hkw : backToKw pos (keywordEach [⟨some "key", .Lambda params body scope lpos, kpos⟩] X.env) = [(some (Str.ofString "key"), do let v ← eval (.Lambda params body scope lpos) X.env; standAt pos; pure v)] := by rfl) :
    PE X (.Call (.Name "sorted" npos) [e] [⟨some "key", .Lambda params body scope lpos, kpos⟩] pos) (tSortLam X.K T te tb j) := by
  refine ⟨fun pins s σ H Q I h => ?_⟩
  refine wpAny_Call_Name_kw (ld_blt I hg hmg hbt ?_)
  refine callWith_kw (thn (he.run pos pins s σ H (fun vs H1 => match vs with
    | [v] => ∃ (p : Addr) (ss : List Str) (key : Str → Int), v = .ref p ∧ SqT X.K H1 p (ss.map V.str) ∧ ss.length ≤ 1000 ∧ Tabs T H1 ∧
  (∀ x ∈ ss, ∀ H2, ExtN H1 H2 → ∀ Q2 : VK, (∀ H3, Ex H2 H3 → Q2 (.int (key x)) H3) → tb (σ.set j (some (.str x))) H2 Q2) ∧
  ∀ l H4, ExtN H1 H4 → Tabs T H4 → H4 l = some (.lst ((srt key ss).map V.str)) → Q (.ref l) H4
    | _ => False) I h) fun us s1 ⟨vs, H1, I1, r1, q1⟩ => ?_) he1 hpl (by rw [hkw]; rfl) (by rw [hkw]; rfl)
  rw [hkw]
  match vs, q1 with
  | [v], q1 =>
    obtain ⟨p, ss, key, rfl, hp, hz, hT, hk, q⟩ := q1
    have hv : us = [.ref p] := by
      cases r1 with
      | cons a b =>
        cases b
        cases a
        rfl
    subst hv
    refine wpAny_evalAll_cons (wpAny_bind (lam_make2 I1 TB hcode hm hu hT hdef (L.has I1.ok) fun f c' pm ctv H2 s2 I2 eN hT2 hf hfn hfs hc => wpAny_bind (wpAny_standAt (wpAny_pure (wpAny_evalAll_nil ?_)))))
    show wpAny _ _ (call (.builtin "sorted") [.ref p] [(Str.ofString "key", .ref f)]) _ _ _
    have hp2 : SqT X.K H2 p (ss.map V.str) := by
      rcases hp with (hp | ⟨o, hp⟩) | hp
      · exact .inl (.inl (eN _ _ hp nofun))
      · exact .inl (.inr ⟨o, eN _ _ hp nofun⟩)
      · exact .inr hp
    exact sort_core I2 hp2 hz L hN hj hf hfn hfs hc (hbind f c' pm ctv) hr (hbody f c') (fun x hx H3 e3 Q2 q2 => hk x hx H3 (ExtN.ex eN e3) Q2 q2) fun l H4 nl e4 h4 => q l H4 (ExtN.ex eN e4) (hT2.ext e4) h4
end
end Wk

/-! removal_names -/
namespace Wk
open PySem PySem.Spec PyProof.Rows L2 Evl LamX
/-- a def whose code object is known -/
structure FunC (K : PySem.W.Frag) (x qual : Str) (st : Stmt) (f : Addr) (fd : FuncData) (c : Addr) : Prop where
  ex : ∃ (oc : Value) (od : Option Addr) (kV doc pm : Value) (an : Option Addr) (ct : Value) (osl : Array (Option Value)),
    fd = PySem.W.fnOf x qual (defArgs st) (defBody st) (defScope st) .none kV doc pm an (.ref c) ct ∧ K.lookup f = some ⟨oc, od, .func fd, osl⟩ ∧ PySem.W.codeIn K (.ref c) qual = true
theorem func_mk {K : PySem.W.Frag} {x qual : Str} {st : Stmt} {f c : Addr} {oc : Value} {od an : Option Addr} {osl : Array (Option Value)} {kV doc pm ct : Value} (l : K.lookup f = some ⟨oc, od, .func (PySem.W.fnOf x qual (defArgs st) (defBody st) (defScope st) .none kV doc pm an (.ref c) ct), osl⟩)
    (hc : PySem.W.codeIn K (.ref c) qual = true) : FunC K x qual st f (PySem.W.fnOf x qual (defArgs st) (defBody st) (defScope st) .none kV doc pm an (.ref c) ct) c := ⟨oc, od, kV, doc, pm, an, ct, osl, rfl, l, hc⟩
section
variable {P : Program} {w : World} {K : PySem.W.Frag} {mg : Str → Option Value} {base : Heap}
theorem FunC.ok {x qual : Str} {st : Stmt} {f c : Addr} {fd : FuncData} {N ps : List Str} {k : Nat} {sp : Sp} (F : FunC K x qual st f fd c) (S : FnScope N ps (defScope st)) (len : ∀ vs H Q E, sp vs H Q E → vs.length = ps.length)
    (hbody : ∀ (A : Around) (outer : List Env) (s : Shared) (H : Hp) (vs : List V) (Q : VK) (E : XK), Room k (A.deeper (envOfC qual (defScope st) s.heap.objs.size f (.ref c))) → sp vs H Q E →
      ∃ t, PSs (cxOf CX0 P w K mg base N qual (defScope st) f (.ref c) A outer s H E).nox (defBody st) t ∧ t { nx := fun _ H' => Q .non H', rt := Q } (start N vs) H) : FnOk P w K mg base CX0 (k + 1) f fd ps sp := by
  obtain ⟨oc, od, kV, doc, pm, an, ct, osl, rfl, lk, hcd⟩ := F.ex
  refine fn_of lk hcd S len fun A outer s H vs Q E hr hsp => ?_
  obtain ⟨t, h, q⟩ := hbody A outer s H vs Q E hr hsp
  exact ⟨t, h.nox, q⟩
end
/-! ### what stays while tables grow -/
theorem IsT.extN {ss : List Str} {v : V} {H H' : Hp} (e : ExtN H H') (h : IsT ss v H) : IsT ss v H' := by
  obtain ⟨p, h1, h2⟩ := h
  refine ⟨p, h1, ?_⟩
  rcases h2 with h2 | ⟨o, h2⟩
  · exact .inl (e _ _ h2 nofun)
  · exact .inr ⟨o, e _ _ h2 nofun⟩
theorem IsC.extN {ss : List Str} {v : V} {H H' : Hp} (e : ExtN H H') (h : IsC ss v H) : IsC ss v H' := by
  obtain ⟨p, o, h1, h2, h3⟩ := h
  exact ⟨p, o, h1, e _ _ h2 nofun, h3⟩
theorem IsE.extN {rts : List (Str × Str × Str)} {n : Str} {v : V} {H H' : Hp} (e : ExtN H H') (h : IsE rts n v H) : IsE rts n v H' := by
  obtain ⟨r, q, h1, h2, h3, h4⟩ := h
  exact ⟨r, q, h1, h2, h3, e _ _ h4 nofun⟩
theorem IsD.extN {ws : List Str} {v : V} {H H' : Hp} (e : ExtN H H') (h : IsD ws v H) : IsD ws v H' := by
  obtain ⟨q, kk, h1, h2, h3⟩ := h
  exact ⟨q, kk, h1, e _ _ h2 nofun, h3⟩
theorem RowsAt.extN {H H' : Hp} {a : Addr} {rows : List (Str × Str)} (e : ExtN H H') (h : RowsAt H a rows) : RowsAt H' a rows := by
  obtain ⟨ps, h1, h2⟩ := h
  exact ⟨ps, e _ _ h1 nofun, Paired.mapP h2 fun p r q => e _ _ q nofun⟩
theorem RghAt.extN {H H' : Hp} {a : Addr} {rts : List (Str × Str × Str)} (e : ExtN H H') (h : RghAt H a rts) : RghAt H' a rts := by
  obtain ⟨ps, h1, h2⟩ := h
  exact ⟨ps, e _ _ h1 nofun, Paired.mapP h2 fun p r q => e _ _ q nofun⟩
theorem RivAt.extN {A : Adr} {H H' : Hp} {p : Addr} {rows : List (Str × Str)} (e : ExtN H H') (h : RivAt A H p rows) : RivAt A H' p rows := by
  obtain ⟨dx, aw, al, ac, kc, h1, h2, h3, h4, h5⟩ := h
  exact ⟨dx, aw, al, ac, kc, e _ _ h1 nofun, e _ _ h2 nofun, e _ _ h3 nofun, e _ _ h4 nofun, h5.mono fun w v z => z.extN e⟩
theorem RtsAt.extN {A : Adr} {H H' : Hp} {p : Addr} {rows : List (Str × Str)} {rts : List (Str × Str × Str)} (e : ExtN H H') (h : RtsAt A H p rows rts) : RtsAt A H' p rows rts := by
  obtain ⟨dx, pr, an, ae, aw, as_, ke, kw, ks, h1, h2, h3, h4, h5, h6, h7, h8, h9⟩ := h
  exact ⟨dx, pr, an, ae, aw, as_, ke, kw, ks, e _ _ h1 nofun, h2.extN e, e _ _ h3 nofun, e _ _ h4 nofun, h5.mono fun _ _ z => z.extN e, e _ _ h6 nofun, h7.mono fun _ _ z => z.extN e, e _ _ h8 nofun, h9.mono fun _ _ z => z.extN e⟩
/-- the table that the lambda's code lies in -/
def tabs (A : Adr) : List (Addr × Str) := [(A.pR0, "removal_names.<locals>.<lambda>")]
/-- what a def gives back when tables may have grown -/
def RetN (A : Adr) (R : V → Hp → Prop) (H : Hp) (Q : VK) : Prop := ∀ v H2, ExtN H H2 → Tabs (tabs A) H2 → R v H2 → Q v H2
abbrev remS (rows : List (Str × Str)) (rts : List (Str × Str × Str)) : List Str := rem sea rows rts
/-- a list of these texts -/
def IsL (ss : List Str) (v : V) (H : Hp) : Prop := ∃ p, v = .ref p ∧ H p = some (.lst (ss.map V.str))
def spRemNames (A : Adr) : Sp := fun vs H Q _ => ∃ (p : Addr) (rows : List (Str × Str)) (rts : List (Str × Str × Str)), vs = [.ref p] ∧ RtsAt A H p rows rts ∧ RiverOk rows ∧ RightsOk rows rts ∧ Tabs (tabs A) H ∧ RetN A (IsL (remS rows rts)) H Q
theorem srt_rem (rows : List (Str × Str)) (rts : List (Str × Str × Str)) : srt (fun x => -(dpOf sea rows rts x : Int)) (nms rts) = remS rows rts := by
  unfold srt remS rem remP
  congr 1
  funext a b
  rw [decide_eq_decide]
  show -(dpOf sea rows rts a : Int) ≤ -(dpOf sea rows rts b : Int) ↔ _
  omega
section
variable {P : Program} {w : World} {K : PySem.W.Frag} {mg : Str → Option Value} {base : Heap} {A : Adr}
theorem ev_rLast {σ : L2.St} {H : Hp} {ta te : TE} {p : Addr} {x : Str} {rows : List (Str × Str)} {rts : List (Str × Str × Str)} {E : XK} (ho : Ev ta σ H (.ref p)) (hx : Ev te σ H (.str x)) (hR : RtsAt A H p rows rts) (hrok : RiverOk rows) (hok : RightsOk rows rts) (hm : x ∈ nms rts) : Ev (tMeth A.cR "last" (spRLast A) [] E ta (tCons te tNil)) σ H (.str (lwS rows rts x)) := by
  obtain ⟨dx, pr, an, ae, aw, as_, ke, kw, ks, h1, _⟩ := id hR
  refine ep_to (ep_meth ho h1 (flR_last _ _ _ _ _) (ea_p (ea_cons hx ea_nil)) fun vs H1 e1 hvs Q q => ?_)
  subst hvs
  exact ⟨p, x, rows, rts, rfl, hR.ex e1, hrok, hok, hm, fun H2 e2 => q _ H2 e2 rfl⟩
theorem ev_vDepth {σ : L2.St} {H : Hp} {ta te : TE} {p : Addr} {x : Str} {rows : List (Str × Str)} {E : XK} (ho : Ev ta σ H (.ref p)) (hx : Ev te σ H (.str x)) (hR : RivAt A H p rows) (hm : x ∈ rows.map (·.1)) : Ev (tMeth A.cV "depth" (spVDepth A) [] E ta (tCons te tNil)) σ H (.int (depth sea rows x)) := by
  obtain ⟨dx, aw, al, ac, kc, h1, _⟩ := id hR
  refine ep_to (ep_meth ho h1 (by unfold flV; kernel_rfl) (ea_p (ea_cons hx ea_nil)) fun vs H1 e1 hvs Q q => ?_)
  subst hvs
  exact ⟨p, x, rows, rfl, hR.ex e1, hm, fun H2 e2 => q _ H2 e2 rfl⟩
theorem rd_sortLam {T : List (Addr × Str)} {te tb : TE} {j : Nat} {σ : L2.St} {H : Hp} {p : Addr} {ss : List Str} {key : Str → Int} {Q : VK} (hp : Ev te σ H (.ref p)) (hx : SqT K H p (ss.map V.str)) (hz : ss.length ≤ 1000) (hT : Tabs T H)
    (hk : ∀ x ∈ ss, ∀ H2, ExtN H H2 → Ev tb (σ.set j (some (.str x))) H2 (.int (key x))) (q : ∀ l H4, ExtN H H4 → Tabs T H4 → H4 l = some (.lst ((srt key ss).map V.str)) → Q (.ref l) H4) : tSortLam K T te tb j σ H Q :=
  hp H (Ex.refl H) _ fun H1 e1 => ⟨p, ss, key, rfl, ex_t e1 hx, hz, hT.ext e1, fun x hx H2 e2 Q2 q2 => hk x hx H2 ((ExtN.of e1).trans e2) H2 (Ex.refl H2) Q2 q2, fun l H4 e4 t4 h4 => q l H4 ((ExtN.of e1).trans e4) t4 h4⟩
theorem scRemNames : FnScope ["rights", "name"] ["rights"] (defScope sRemNames) := ⟨rfl, rfl, rfl, by decide +kernel, rfl, by decide +kernel, by decide +kernel⟩
theorem ok_remNames (T : Txt K mg A) (C : FunC K "removal_names" "removal_names" sRemNames A.fRemNames A.dRemNames A.cR0) (TB : TabB base mg A.cR0 A.pR0) : FnOk P w K mg base CX0 7 A.fRemNames A.dRemNames ["rights"] (spRemNames A) := by
  have GL : FnOk P w K mg base CX0 3 A.fRLast A.dRLast ["self", "name"] (spRLast A) := ok_rLast T
  have GD : FnOk P w K mg base CX0 3 A.fVDepth A.dVDepth ["self", "weir"] (spVDepth A) := ok_vDepth T
  refine C.ok scRemNames (fun vs H Q E h => ?_) (fun AA outer s H vs Q E hr h => ?_)
  · obtain ⟨p, rows, rts, rfl, _⟩ := h
    rfl
  · obtain ⟨p, rows, rts, rfl, hR, hrok, hok, hT, k⟩ := h
    have hm := hok.most
    obtain ⟨dx, pr, an, ae, aw, as_, ke, kw, ks, h1, h2, h3, h4, h5, h6, h7, h8, h9⟩ := id hR
    refine ⟨_, pss_one (ps_ret (pe_sortLam (nm := "name") (j := 1) (k := 3) (T := tabs A) (te := tFld K (tVar 0) "names") (tb := tUn (rU fun i => .int (-i)) (tMeth A.cV "depth" (spVDepth A) [] E0 (tFld K (tVar 0) "river") (tCons (tMeth A.cR "last" (spRLast A) [] E0 (tVar 0) (tCons (tVar 1) tNil)) tNil)))
      (pa_cons (pe_fld (pv 0) rfl) pa_nil) TB rfl (.head _) (fun p hp _ => by rw [List.mem_singleton.mp hp]; rfl) (lam1_by (by kernel_rfl)) scRemNames.nd rfl hr (by rfl) T.b_sorted (by decide +kernel)
      (fun f c' A' s' H' hr' => pe_un un_neg (pe_meth (pe_fld (pv 0) rfl) T.clV T.mtVDepth GD hr' T.bdVDepth .nil pass0 (pa_cons (pe_meth (pv 0) T.clR T.mtRLast GL hr' T.bdRLast .nil pass0 (pa_cons (pv 1) pa_nil)) pa_nil))))), ?_⟩
    refine rd_sortLam (p := an) (ss := nms rts) (key := fun x => -(dpOf sea rows rts x : Int)) (ev_fld (ev_var rfl) h1 T.clR T.nR_names (flR_names _ _ _ _ _)) (st_of h3) (by rw [nms_len]; omega) hT (fun x hx H2 e2 => ?_) fun l H4 e4 t4 h4 => k _ H4 e4 t4 ⟨l, rfl, by rw [← srt_rem]; exact h4⟩
    exact ev_un (ev_vDepth (ev_fld (ev_var rfl) (e2 _ _ h1 nofun) T.clR T.nR_river (flR_river _ _ _ _ _)) (ev_rLast (ev_var rfl) (ev_var rfl) (hR.extN e2) hrok hok hx) (h2.extN e2) (wy_weir hrok.good hok.good hx _ (lw_in hrok.good hok.good hx))) ru_neg
end
end Wk

/-! apart, guards, turns -/
namespace Wk
open PySem PySem.Spec PyProof.Rows L2 Evl LamX
/-- te gives a value of which P holds; tables may have grown -/
def EvN (A : Adr) (te : TE) (σ : L2.St) (H : Hp) (P : V → Hp → Prop) : Prop := ∀ Q : VK, RetN A P H Q → te σ H Q
section
variable {K : PySem.W.Frag} {A : Adr} {σ : L2.St} {H H' : Hp} {te : TE} {P : V → Hp → Prop} {D : Ends} {tu tz : TS} {g : TG} {wi : TI}
theorem en_call {sp : Sp} {E : XK} {ta : TA} {vs : List V} (h : EvA ta σ H vs) (hs : ∀ H1, Ex H H1 → ∀ Q : VK, RetN A P H1 Q → sp (vs ++ []) H1 Q E) : EvN A (tCall sp [] E ta) σ H P := fun Q q =>
  h H (Ex.refl H) _ fun H1 e1 => hs H1 e1 Q fun v H2 e2 t2 p => q v H2 ((ExtN.of e1).trans e2) t2 p
theorem en_rev {ss : List Str} (h : EvN A te σ H (IsL ss)) : EvN A (tRevL K te) σ H (IsL ss.reverse) := fun Q q =>
  h _ fun v H2 e2 t2 ⟨p, ev, hp⟩ => ⟨p, _, ev, sq_of hp, fun l hl => q _ _ (e2.trans (ExtN.of (Ex.new hl))) (t2.ext (Ex.new hl)) ⟨l, rfl, by rw [upd_same, List.map_reverse]⟩⟩
/-- for name in (a list that te gives) -/
theorem s_forN {ss : List Str} {j : Nat} (h : EvN A te σ H (IsL ss)) (k : ∀ a H1, ExtN H H1 → Tabs (tabs A) H1 → H1 a = some (.lst (ss.map V.str)) → ∃ Pv : Nat → L2.St → Hp → Prop, Pv 0 σ H1 ∧ (∀ i σ' H', i ≤ ss.length → Pv i σ' H' → H' a = some (.lst (ss.map V.str))) ∧
    (∀ i x σ' H', ss[i]? = some x → Pv i σ' H' → tu { D with nx := Pv (i + 1), ct := Pv (i + 1), bk := D.nx } (σ'.set j (some (.str x))) H') ∧ (∀ σ' H', Pv ss.length σ' H' → D.nx σ' H')) : tFor (iList K te) (gName j) tu D σ H :=
  h _ fun v H2 e2 t2 ⟨a, ev, ha⟩ => by
    obtain ⟨Pv, p0, pl, ps, pd⟩ := k a H2 e2 t2 ha
    have hl : (ss.map V.str).length = ss.length := by simp
    exact ⟨a, ev, ⟨_, sq_of ha⟩, for_list Pv p0 (fun i σ' H' hi p => sq_of (pl i σ' H' (by rw [← hl]; exact hi) p)) (fun i x σ' H' hx p => by
      obtain ⟨s, hs⟩ : ∃ s, ss[i]? = some s := ⟨_, List.getElem?_eq_getElem (by rw [← hl]; exact (List.getElem?_eq_some_iff.mp hx).1)⟩
      have := item_str hx hs
      subst this
      exact ps i s σ' H' hs p) (fun σ' H' p => pd σ' H' (by rw [← hl]; exact p))⟩
theorem q_forN {ss : List Str} {j : Nat} (h : EvN A te σ H (IsL ss)) (k : ∀ a H1, ExtN H H1 → Tabs (tabs A) H1 → H1 a = some (.lst (ss.map V.str)) → ∃ Pv : Nat → L2.St → Hp → Prop, Pv 0 σ H1 ∧ (∀ i σ' H', i ≤ ss.length → Pv i σ' H' → H' a = some (.lst (ss.map V.str))) ∧
    (∀ i x σ' H', ss[i]? = some x → Pv i σ' H' → tu { D with nx := Pv (i + 1), ct := Pv (i + 1), bk := tz D } (σ'.set j (some (.str x))) H') ∧ (∀ σ' H', Pv ss.length σ' H' → tz D σ' H')) : tSeq (tFor (iList K te) (gName j) tu) tz D σ H :=
  s_forN (D := { D with nx := tz D }) h k
end
/-! ### apart -/
abbrev aptS (rows : List (Str × Str)) (rts : List (Str × Str × Str)) : List Str := apt sea rows rts
def spApart (A : Adr) : Sp := fun vs H Q _ => ∃ (p : Addr) (rows : List (Str × Str)) (rts : List (Str × Str × Str)), vs = [.ref p] ∧ RtsAt A H p rows rts ∧ RiverOk rows ∧ RightsOk rows rts ∧ Tabs (tabs A) H ∧ RetN A (IsT (aptS rows rts)) H Q
def spGuards (A : Adr) : Sp := fun vs H Q _ => ∃ (p : Addr) (rows : List (Str × Str)) (rts : List (Str × Str × Str)), vs = [.ref p] ∧ RtsAt A H p rows rts ∧ RiverOk rows ∧ RightsOk rows rts ∧ Tabs (tabs A) H ∧ RetN A (IsT ((aptS rows rts).map (lwS rows rts))) H Q
theorem rem_in {rows : List (Str × Str)} {rts : List (Str × Str × Str)} {x : Str} (h : x ∈ remS rows rts) : x ∈ nms rts := rem_perm.mem_iff.mp h
theorem rem_len (rows : List (Str × Str)) (rts : List (Str × Str × Str)) : (remS rows rts).length = rts.length := by
  rw [(rem_perm).length_eq, nms_len]
theorem pick_len {c : Str → List Str → Bool} (l : List Str) : (pick c l).length ≤ l.length := by
  refine deal_ind (P := fun a => (pick c a).length ≤ a.length) l (by simp [pick]) fun a x _ ih => ?_
  rw [pick_snoc]
  split
  · simp; omega
  · simp; omega
theorem take_snoc {α : Type} {l : List α} {i : Nat} {x : α} (h : l[i]? = some x) : l.take (i + 1) = l.take i ++ [x] := by
  obtain ⟨hi, e⟩ := List.getElem?_eq_some_iff.mp h
  rw [List.take_succ_eq_append_getElem hi, e]
theorem tabs_off {T : List (Addr × Str)} {H H' : Hp} {l : Addr} {xs : List V} (t : Tabs T H) (hl : H l = some (.lst xs)) (e : ExO l H H') : Tabs T H' := fun p hp => by
  obtain ⟨ps, h1, h2, h3⟩ := t p hp
  refine ⟨ps, e _ _ (fun z => by rw [z, hl] at h1; cases h1) h1, h2, fun pos cv hc => ?_⟩
  obtain ⟨c, e1, e2⟩ := h3 pos cv hc
  exact ⟨c, e1, e _ _ (fun z => by rw [z, hl] at e2; unfold CodeO at e2; cases e2) e2⟩
section
variable {P : Program} {w : World} {K : PySem.W.Frag} {mg : Str → Option Value} {base : Heap} {A : Adr}
/-- met_by(rights, x) -/
theorem ep_metBy {σ : L2.St} {H : Hp} {ta te : TE} {p : Addr} {x : Str} {rows : List (Str × Str)} {rts : List (Str × Str × Str)} {E : XK} (ho : Ev ta σ H (.ref p)) (hx : Ev te σ H (.str x)) (hR : RtsAt A H p rows rts) (hrok : RiverOk rows) (hok : RightsOk rows rts) (hm : x ∈ nms rts) :
    EvP (tCall (spMetBy A) [] E (tCons ta (tCons te tNil))) σ H (IsT (metBy (wyS rows rts) (nms rts) x)) := by
  refine ep_call (ea_p (ea_cons ho (ea_cons hx ea_nil))) fun vs H1 e1 hvs Q q => ?_
  subst hvs
  exact ⟨p, x, rows, rts, rfl, hR.ex e1, hrok, hok, hm, q⟩
/-- removal_names(rights) -/
theorem en_rem {σ : L2.St} {H : Hp} {ta : TE} {p : Addr} {rows : List (Str × Str)} {rts : List (Str × Str × Str)} {E : XK} (ho : Ev ta σ H (.ref p)) (hR : RtsAt A H p rows rts) (hrok : RiverOk rows) (hok : RightsOk rows rts) (hT : Tabs (tabs A) H) :
    EvN A (tCall (spRemNames A) [] E (tCons ta tNil)) σ H (IsL (remS rows rts)) :=
  en_call (ea_cons ho ea_nil) fun H1 e1 Q q => ⟨p, rows, rts, rfl, hR.ex e1, hrok, hok, hT.ext e1, q⟩
abbrev nApart : List Str := ["rights", "found", "name", "met", "other"]
theorem scApart : FnScope nApart ["rights"] (defScope sApart) := ⟨rfl, rfl, rfl, by decide +kernel, rfl, by decide +kernel, by decide +kernel⟩
theorem ok_apart (T : Txt K mg A) (C : FunC K "removal_names" "removal_names" sRemNames A.fRemNames A.dRemNames A.cR0) (TB : TabB base mg A.cR0 A.pR0) : FnOk P w K mg base CX0 8 A.fApart A.dApart ["rights"] (spApart A) := by
  have GR : FnOk P w K mg base CX0 7 A.fRemNames A.dRemNames ["rights"] (spRemNames A) := ok_remNames T C TB
  have GM : FnOk P w K mg base CX0 4 A.fMetBy A.dMetBy ["rights", "name"] (spMetBy A) := ok_metBy T
  refine T.fnApart.ok scApart (fun vs H Q E h => ?_) (fun cdv AA outer s H vs Q E hr h => ?_)
  · obtain ⟨p, rows, rts, rfl, _⟩ := h
    rfl
  · obtain ⟨p, rows, rts, rfl, hR, hrok, hok, hT, k⟩ := h
    have hr4 : Room 4 _ := hr.mono (by decide)
    have hm := hok.most
    refine ⟨_, pss_cons (ps_set (i := 1) scApart.nd rfl (.inl rfl) (pe_lst pa_nil))
      (pss_cons (ps_for PassesOwn.never rfl (pi_list (pe_call GR hr rfl T.mgRemNames T.fnRemNames.kp T.bdRemNames .nil pass0 (pa_cons (pv 0) pa_nil))) (pg_name (i := 2) scApart.nd rfl (Or.inl rfl))
        (pss_cons (ps_set (i := 3) scApart.nd rfl (.inr rfl) (pe_call GM hr4 rfl T.mgMetBy T.fnMetBy.kp T.bdMetBy .nil pass0 (pa_cons (pv 0) (pa_cons (pv 2) pa_nil))))
        (pss_one (ps_if (pt_not (pt_val (pe_callB (cr_any rfl) (by rfl) T.b_any (by decide +kernel) (pa_cons
          (pe_lc (own := [("other", 4)]) (g := gName 4) (tt := tYes) (te := tOp (rIn K false) (tVar 4) (tVar 3)) rfl scApart.nd (pi_list (pv 1)) (blkOk_by (own := [("other", 4)]) (N := nApart) (sc := defScope sApart) (by decide +kernel))
            (fun _ _ _ _ _ => pg_name (i := 4) scApart.nd rfl (Or.inl rfl)) (fun _ _ _ _ _ => pts_nil) (fun _ _ _ _ _ => pe_cmpR op_in_seq (pv 4) (pv 3) rfl)) pa_nil))))
          (pss_one (ps_expr (pe_bm PySem.F.plainAttrs_list PySem.F.slot_list_append PySem.F.type_list_append mt_append (pv 1) (pa_cons (pv 2) pa_nil)))) pss_nil))))
      (pss_one (ps_ret (pe_callTy call_tuple_of (by rfl) T.b_tuple (by decide +kernel) (pa_cons (pv 1) pa_nil))))), ?_⟩
    refine q_asgL (el_lst ea_nil (by simp)) fun l H0 nl e0 hl => ?_
    have hR0 := hR.ex e0
    refine q_forN (A := A) (ss := remS rows rts) (en_rem (ev_var rfl) hR0 hrok hok (hT.ext e0)) fun a H1 e1 t1 ha => ?_
    have hR1 := hR0.extN e1
    have hl1 : H1 l = some (.lst []) := e1 _ _ hl nofun
    have nla : l = a → remS rows rts = [] := fun z => by
      subst z
      rw [hl1] at ha
      have := congrArg (fun o => match o with | some (HO.lst xs) => xs.length | _ => 0) ha
      exact List.eq_nil_of_length_eq_zero (by simpa using this.symm)
    have eH : ∀ {H' : Hp}, ExO l H1 H' → ExtN H H' := fun e' b o hb n => e' b o (ne_of_none hb nl) (e1 b o (e0 b o hb) n)
    refine ⟨fun i σ' H' => ∃ v2 v3, σ' = [some (.ref p), some (.ref l), v2, v3, none] ∧ ExO l H1 H' ∧ H' l = some (.lst ((pick (clashP (wyS rows rts) (nms rts)) ((remS rows rts).take i)).map V.str)), ⟨none, none, rfl, fun b o _ h => h, by simpa [pick] using hl1⟩, ?_, ?_, ?_⟩
    · rintro i σ' H' hi ⟨v2, v3, rfl, e2, h2⟩
      by_cases z : l = a
      · have := nla z
        subst z
        rw [h2, this]
        simp [pick]
      · exact e2 _ _ (Ne.symm z) ha
    · rintro i x σ' H' hx ⟨v2, v3, rfl, e2, h2⟩
      have hxm : x ∈ nms rts := rem_in (List.mem_of_getElem? hx)
      have hR2 := hR.extN (eH e2)
      refine q_asgP (ep_metBy (ev_var rfl) (ev_var rfl) hR2 hrok hok hxm) fun v H3 e3 hv => ?_
      obtain ⟨q, rfl, hq⟩ := hv.sq (K := K)
      have ht := take_snoc hx
      have hlen : (pick (clashP (wyS rows rts) (nms rts)) ((remS rows rts).take i)).length ≤ 40 := by
        refine Nat.le_trans (pick_len _) ?_
        rw [List.length_take, rem_len]
        omega
      have hc : ∀ {b : Bool}, clashP (wyS rows rts) (nms rts) x (pick (clashP (wyS rows rts) (nms rts)) ((remS rows rts).take i)) = b → EvT (tNot (tB (tCB (rAny K) (tCons (tLc (iList K (tVar 1)) (gName 4) tYes (tOp (rIn K false) (tVar 4) (tVar 3)) [4]) tNil)))) [some (.ref p), some (.ref l), some (.str x), some (.ref q), none] H3 (!b) := fun {b} hb => by
        refine et_not (et_B (ev_anyc (pick (clashP (wyS rows rts) (nms rts)) ((remS rows rts).take i)) (fun o => decide (o ∈ metBy (wyS rows rts) (nms rts) x)) (src_len (src_list (ev_var rfl) (sq_of (e3 _ _ h2))) (by simp)) (by omega) (fun j y v H4 hy e4 hI => ?_) hb))
        have := item_str hI hy
        subst this
        exact ⟨_, tgt_name rfl, ev_inT (ev_var rfl) (ev_var rfl) (ex_t e4 hq) rfl⟩
      cases hcl : clashP (wyS rows rts) (nms rts) x (pick (clashP (wyS rows rts) (nms rts)) ((remS rows rts).take i)) with
      | true =>
        refine s_when (b := false) (hc hcl) (fun h => nomatch h) (fun _ H4 e4 => ⟨_, _, rfl, ?_, ?_⟩)
        · exact fun b o n hb => (e3.trans e4) _ _ (e2 b o n hb)
        · rw [ht, pick_snoc, hcl, if_pos rfl]
          exact (e3.trans e4) _ _ h2
      | false =>
        refine s_when (b := true) (hc hcl) (fun _ H4 e4 => ?_) (fun h => nomatch h)
        refine s_app ((e3.trans e4) _ _ h2) (ev_var rfl) (ev_var (v := .str x) rfl) (by simp; omega) fun H5 e5 => ⟨_, _, rfl, ?_, ?_⟩
        · intro b o n hb
          rw [upd_ne n]
          exact ((e3.trans e4).trans e5) _ _ (e2 b o n hb)
        · rw [ht, pick_snoc, hcl, if_neg (by decide), upd_same, List.map_append]
          rfl
    · rintro σ' H' ⟨v2, v3, rfl, e2, h2⟩
      rw [List.take_length] at h2
      rw [apt_prog hok.good] at h2
      refine s_retP ((ep_u (eu_tupL (ev_var rfl) (sq_of h2))).imp fun v H' _ ⟨q, z1, z2⟩ => (⟨q, z1, .inl z2⟩ : IsT _ v H')) fun v H3 e3 z => k v H3 ((eH e2).trans (ExtN.of e3)) ((tabs_off t1 hl1 e2).ext e3) z
/-- tuple([.. for .. in what a def gives]) given back -/
theorem en_retLc {te tk : TE} {tt : TT} {g : TG} {vs : List Nat} {r : List V → Hp → VK → Prop} {D : Ends} {σ : L2.St} {H : Hp} {P : V → Hp → Prop} (h : EvN A te σ H P) (k : ∀ v H1, ExtN H H1 → Tabs (tabs A) H1 → P v H1 → tRet (tCB r (tCons (tLc (iTup K (tC v)) g tt tk vs) tNil)) D σ H1) :
    tRet (tCB r (tCons (tLc (iTup K te) g tt tk vs) tNil)) D σ H := h _ k
abbrev nGuards : List Str := ["rights", "name"]
theorem scGuards : FnScope nGuards ["rights"] (defScope sGuards) := ⟨rfl, rfl, rfl, by decide +kernel, rfl, by decide +kernel, by decide +kernel⟩
theorem apt_len (rows : List (Str × Str)) (rts : List (Str × Str × Str)) : (aptS rows rts).length ≤ rts.length := by
  refine Nat.le_trans (pick_len _) ?_
  exact Nat.le_of_eq (rem_len rows rts)
theorem ok_guards (T : Txt K mg A) (C : FunC K "removal_names" "removal_names" sRemNames A.fRemNames A.dRemNames A.cR0) (TB : TabB base mg A.cR0 A.pR0) : FnOk P w K mg base CX0 9 A.fGuards A.dGuards ["rights"] (spGuards A) := by
  have GA : FnOk P w K mg base CX0 8 A.fApart A.dApart ["rights"] (spApart A) := ok_apart T C TB
  have GL : FnOk P w K mg base CX0 3 A.fRLast A.dRLast ["self", "name"] (spRLast A) := ok_rLast T
  refine T.fnGuards.ok scGuards (fun vs H Q E h => ?_) (fun cdv AA outer s H vs Q E hr h => ?_)
  · obtain ⟨p, rows, rts, rfl, _⟩ := h
    rfl
  · obtain ⟨p, rows, rts, rfl, hR, hrok, hok, hT, k⟩ := h
    have hr3 : Room 3 _ := hr.mono (by decide)
    have hm := hok.most
    refine ⟨_, pss_one (ps_ret (pe_callTy call_tuple_of (by rfl) T.b_tuple (by decide +kernel) (pa_cons
      (pe_lc (own := [("name", 1)]) (g := gName 1) (tt := tYes) (te := tMeth A.cR "last" (spRLast A) [] E0 (tVar 0) (tCons (tVar 1) tNil)) rfl scGuards.nd (pi_tup (pe_call GA hr rfl T.mgApart T.fnApart.kp T.bdApart .nil pass0 (pa_cons (pv 0) pa_nil))) (blkOk_by (own := [("name", 1)]) (N := nGuards) (sc := defScope sGuards) (by decide +kernel))
        (fun _ _ _ _ _ => pg_name (i := 1) scGuards.nd rfl (Or.inl rfl)) (fun _ _ _ _ _ => pts_nil) (fun _ _ _ _ _ => pe_meth (pv 0) T.clR T.mtRLast GL hr3 T.bdRLast .nil pass0 (pa_cons (pv 1) pa_nil))) pa_nil))), ?_⟩
    refine en_retLc (A := A) (P := IsT (aptS rows rts)) (en_call (ea_cons (ev_var (v := .ref p) rfl) ea_nil) fun H1 e1 Q' q' => ⟨p, rows, rts, rfl, hR.ex e1, hrok, hok, hT.ext e1, q'⟩) fun v H1 e1 t1 hv => ?_
    obtain ⟨q, rfl, hq⟩ := hv.sq (K := K)
    refine s_retP ((ep_u (eu_tupOf (xs := ((aptS rows rts).map (lwS rows rts)).map V.str) ?_)).imp fun v H' _ ⟨q, z1, z2⟩ => (⟨q, z1, .inl z2⟩ : IsT _ v H')) fun v H3 e3 z => k v H3 (e1.trans (ExtN.of e3)) (t1.ext e3) z
    rw [List.map_map]
    refine lcM (aptS rows rts) (V.str ∘ lwS rows rts) (src_len (src_tup ev_c hq) (by simp)) (by have := apt_len rows rts; omega) (fun i n v H2 hri e2 hv => ?_)
    have := item_str hv hri
    subst this
    exact ⟨_, tgt_name rfl, ev_rLast (ev_var rfl) (ev_var rfl) ((hR.extN e1).ex e2) hrok hok (apt_sub _ (List.mem_of_getElem? hri))⟩
end
end Wk

/-! turns -/
namespace Wk
open PySem PySem.Spec PyProof.Rows L2 Evl LamX
theorem paired_mk {α β : Type} {F : α → β → Prop} : ∀ {l : List α} {m : List β}, l.length = m.length → (∀ (i : Nat) (a : α) (b : β), l[i]? = some a → m[i]? = some b → F a b) → Paired F l m
  | [], [], _, _ => .nil
  | [], _ :: _, h, _ => nomatch h
  | _ :: _, [], h, _ => nomatch h
  | a :: l, b :: m, h, k => .cons (k 0 a b rfl rfl) (paired_mk (Nat.succ.inj h) fun i x y hx hy => k (i + 1) x y hx hy)
/-- not there, but for a table -/
def NewN (p : Addr) (H : Hp) : Prop := ∀ o, H p = some o → ∃ ps, o = .tbl ps
theorem newN_of {p : Addr} {H H' : Hp} (e : ExtN H H') (n : H' p = none) : NewN p H := fun o ho => by
  by_cases h : ∃ ps, o = .tbl ps
  · exact h
  · rw [e p o ho fun ps z => h ⟨ps, z⟩] at n
    cases n
/-- a list of tuples of texts -/
def TTAt (H : Hp) (a : Addr) (ts : List (List Str)) : Prop := ∃ qs : List Addr, H a = some (.lst (qs.map V.ref)) ∧ Paired (fun q (t : List Str) => H q = some (.tup (t.map V.str))) qs ts
theorem TTAt.ex {H H' : Hp} {a : Addr} {ts : List (List Str)} (e : Ex H H') (h : TTAt H a ts) : TTAt H' a ts := by
  obtain ⟨ps, h1, h2⟩ := h
  exact ⟨ps, e _ _ h1, Paired.mapP h2 fun p r q => e _ _ q⟩
/-- the turns while they are dealt: a list of lists of texts, these new against H1 -/
structure FAt (ps : List Addr) (H1 H : Hp) (a : Addr) (ts : List (List Str)) : Prop where
  at_ : H a = some (.lst (ps.map V.ref))
  its : Paired (fun p (t : List Str) => H p = some (.lst (t.map V.str))) ps ts
  nd : ps.Nodup
  new : ∀ p ∈ ps, H1 p = none
  off : a ∉ ps
variable {H1 H H' : Hp} {a p : Addr} {ps : List Addr} {ts : List (List Str)} {t : List Str}
theorem FAt.ex (e : Ex H H') (h : FAt ps H1 H a ts) : FAt ps H1 H' a ts := ⟨e _ _ h.at_, Paired.mapP h.its fun p r q => e _ _ q, h.nd, h.new, h.off⟩
theorem FAt.len (h : FAt ps H1 H a ts) : ps.length = ts.length := paired_len h.its
theorem FAt.get (h : FAt ps H1 H a ts) {k : Nat} (hk : k < ts.length) : ∃ p, ps[k]? = some p ∧ p ∈ ps ∧ H p = some (.lst ((ts.getD k []).map V.str)) := by
  have hk' : k < ps.length := by rw [h.len]; exact hk
  have e := List.getElem?_eq_getElem hk'
  obtain ⟨t, h1, h2⟩ := paired_get h.its e
  refine ⟨_, e, List.getElem_mem hk', ?_⟩
  rw [List.getD_eq_getElem?_getD, h1]
  exact h2
theorem FAt.isL (h : FAt ps H1 H a ts) (hp : p ∈ ps) : ∃ t : List Str, H p = some (.lst (t.map V.str)) := by
  obtain ⟨i, e⟩ := List.getElem?_of_mem hp
  obtain ⟨t, _, h2⟩ := paired_get h.its e
  exact ⟨t, h2⟩
theorem FAt.snoc (h : FAt ps H1 H a ts) (hp : H p = some (.lst (t.map V.str))) (n1 : H1 p = none) (np : p ∉ ps) (na : a ≠ p) : FAt (ps ++ [p]) H1 (upd H a (.lst (ps.map V.ref ++ [.ref p]))) a (ts ++ [t]) := by
  refine ⟨by rw [upd_same, List.map_append]; rfl, paired_snoc ?_ (by rw [upd_ne (Ne.symm na)]; exact hp), ?_, ?_, ?_⟩
  · refine paired_mk h.len fun i q r hq hr => ?_
    obtain ⟨r', h1, h2⟩ := paired_get h.its hq
    rw [hr] at h1
    cases h1
    rw [upd_ne (fun e => h.off (by rw [← e]; exact List.mem_of_getElem? hq))]
    exact h2
  · rw [List.nodup_append]
    refine ⟨h.nd, by simp, fun x hx y hy e => ?_⟩
    have : y = p := by simpa using hy
    rw [e, this] at hx
    exact np hx
  · intro q hq
    rcases List.mem_append.mp hq with z | z
    · exact h.new q z
    · rw [List.mem_singleton.mp z]
      exact n1
  · intro z
    rcases List.mem_append.mp z with z | z
    · exact h.off z
    · exact na (List.mem_singleton.mp z)
theorem FAt.set (h : FAt ps H1 H a ts) {k : Nat} (hk : ps[k]? = some p) : FAt ps H1 (upd H p (.lst (t.map V.str))) a (ts.set k t) := by
  have hp : p ∈ ps := List.mem_of_getElem? hk
  refine ⟨by rw [upd_ne (fun e => h.off (by rw [e]; exact hp))]; exact h.at_, paired_mk (by rw [List.length_set]; exact h.len) fun i q r hq hr => ?_, h.nd, h.new, h.off⟩
  have hi : i < ts.length := by
    have := (List.getElem?_eq_some_iff.mp hr).1
    rw [List.length_set] at this
    exact this
  by_cases e : k = i
  · subst e
    rw [hk] at hq
    cases hq
    rw [List.getElem?_set_self hi] at hr
    cases hr
    exact upd_same
  · rw [List.getElem?_set_ne e] at hr
    obtain ⟨r', h1, h2⟩ := paired_get h.its hq
    rw [hr] at h1
    cases h1
    have hne : q ≠ p := fun z => e (by
      rw [z] at hq
      have hkl : k < ps.length := (List.getElem?_eq_some_iff.mp hk).1
      exact (List.getElem?_inj hkl h.nd).mp (hk.trans hq.symm))
    rw [upd_ne hne]
    exact h2
theorem canLay_ints : ∀ (ks : List Int), PyData.canLayAll0 (ks.map PyData.int) = true
  | [] => rfl
  | s :: ss => by
    rw [List.map_cons, PyData.canLayAll0, PyData.canLay0, canLay_ints ss]
    rfl
theorem depth_ints : ∀ (ss : List Int), PyData.depthAll (ss.map PyData.int) = 0
  | [] => rfl
  | s :: ss => by
    rw [List.map_cons, PyData.depthAll, PyData.depth, depth_ints ss]
    rfl
theorem dp_ints {K : PySem.W.Frag} {H : Hp} : ∀ ks : List Int, DpAll K H (ks.map V.int) (ks.map PyData.int)
  | [] => .nil
  | k :: ks => .cons (.int k) (dp_ints ks)
theorem shaped_ints (ks : List Int) : SeqAt.shaped (.list (ks.map PyData.int)) = true := by
  unfold SeqAt.shaped
  rw [PyData.canLay0, canLay_ints, PyData.depth, depth_ints]
  rfl
theorem eqv_nilI : ∀ (ks : List Int), PyData.eqv (.list (ks.map PyData.int)) (.list ([].map PyData.int)) = ks.isEmpty
  | [] => by rw [PyData.eqv]; rfl
  | s :: ss => by rw [PyData.eqv]; rfl
abbrev dealtP (rows : List (Str × Str)) (rts : List (Str × Str × Str)) (i : Nat) : List (List Str) := deal (clashP (wyS rows rts) (nms rts)) ((remS rows rts).reverse.take i)
theorem put_len {c : List Str → Bool} {x : Str} {ts : List (List Str)} : (put c x ts).length ≤ ts.length + 1 := by
  unfold put
  split
  · simp
  · simp
theorem deal_len {c : Str → List Str → Bool} (l : List Str) : (deal c l).length ≤ l.length := by
  refine deal_ind (P := fun a => (deal c a).length ≤ a.length) l (by simp [deal]) fun a x _ ih => ?_
  rw [deal_snoc, List.length_append]
  exact Nat.le_trans put_len (Nat.add_le_add_right ih 1)
abbrev toldS (rows : List (Str × Str)) (rts : List (Str × Str × Str)) : List (List Str) := told sea rows rts
def spTurns (A : Adr) : Sp := fun vs H Q _ => ∃ (p : Addr) (rows : List (Str × Str)) (rts : List (Str × Str × Str)), vs = [.ref p] ∧ RtsAt A H p rows rts ∧ RiverOk rows ∧ RightsOk rows rts ∧ Tabs (tabs A) H ∧ RetN A (fun v H2 => ∃ a, v = .ref a ∧ NewN a H ∧ TTAt H2 a (toldS rows rts)) H Q
abbrev nTurns : List Str := ["rights", "found", "name", "met", "free", "place", "turn", "other"]
theorem scTurns : FnScope nTurns ["rights"] (defScope sTurns) := ⟨rfl, rfl, rfl, by decide +kernel, rfl, by decide +kernel, by decide +kernel⟩
section
variable {P : Program} {w : World} {K : PySem.W.Frag} {mg : Str → Option Value} {base : Heap} {A : Adr}
theorem ok_turns (T : Txt K mg A) (C : FunC K "removal_names" "removal_names" sRemNames A.fRemNames A.dRemNames A.cR0) (TB : TabB base mg A.cR0 A.pR0) : FnOk P w K mg base CX0 8 A.fTurns A.dTurns ["rights"] (spTurns A) := by
  have GR : FnOk P w K mg base CX0 7 A.fRemNames A.dRemNames ["rights"] (spRemNames A) := ok_remNames T C TB
  have GM : FnOk P w K mg base CX0 4 A.fMetBy A.dMetBy ["rights", "name"] (spMetBy A) := ok_metBy T
  refine T.fnTurns.ok scTurns (fun vs H Q E h => ?_) (fun cdv AA outer s H vs Q E hr h => ?_)
  · obtain ⟨p, rows, rts, rfl, _⟩ := h
    rfl
  · obtain ⟨p, rows, rts, rfl, hR, hrok, hok, hT, k⟩ := h
    have hr4 : Room 4 _ := hr.mono (by decide)
    have hu64 := hr.units
    have hm := hok.most
    refine ⟨_, pss_cons (ps_set (i := 1) scTurns.nd rfl (.inl rfl) (pe_lst pa_nil))
      (pss_cons (ps_for PassesOwn.never rfl (pi_list (pe_revL (pe_call GR hr rfl T.mgRemNames T.fnRemNames.kp T.bdRemNames .nil pass0 (pa_cons (pv 0) pa_nil)))) (pg_name (i := 2) scTurns.nd rfl (Or.inl rfl))
        (pss_cons (ps_set (i := 3) scTurns.nd rfl (.inr rfl) (pe_call GM hr4 rfl T.mgMetBy T.fnMetBy.kp T.bdMetBy .nil pass0 (pa_cons (pv 0) (pa_cons (pv 2) pa_nil))))
        (pss_cons (ps_setLc (i := 4) (own := [("place", 5), ("turn", 6)]) (g := gTup K 2 (gCons (gName 5) (gCons (gName 6) gNil))) (tt := tNot (tB (tCB (rAny K) (tCons (tLc (iList K (tVar 6)) (gName 7) tYes (tOp (rIn K false) (tVar 7) (tVar 3)) [7]) tNil)))) (te := tVar 5) rfl scTurns.nd rfl rfl rfl
            (pi_enum (by rfl) T.b_enumerate (pa_cons (pv 1) pa_nil)) (blkOk_by (own := [("place", 5), ("turn", 6)]) (N := nTurns) (sc := defScope sTurns) (by decide +kernel))
            (fun _ _ _ _ _ => pg_tup rfl (pgs_cons (pg_name (i := 5) scTurns.nd rfl (Or.inl rfl)) (pgs_cons (pg_name (i := 6) scTurns.nd rfl (Or.inl rfl)) pgs_nil)))
            (fun _ _ _ _ _ => pts_one (pt_not (pt_val (pe_callB (cr_any rfl) (by rfl) T.b_any (by decide +kernel) (pa_cons
              (pe_lc (own := [("other", 7)]) (g := gName 7) (tt := tYes) (te := tOp (rIn K false) (tVar 7) (tVar 3)) rfl scTurns.nd (pi_list (pv 6)) (blkOk_by (by kernel_rfl))
                (fun _ _ _ _ _ => pg_name (i := 7) scTurns.nd rfl (Or.inl rfl)) (fun _ _ _ _ _ => pts_nil) (fun _ _ _ _ _ => pe_cmpR op_in_seq (pv 7) (pv 3) rfl)) pa_nil)))))
            (fun _ _ _ _ _ => pv 5))
        (pss_one (ps_if (pt_cmpR (op_eqD hu64) (pv 4) (pe_lst pa_nil) (nomark _))
          (pss_one (ps_expr (pe_bm PySem.F.plainAttrs_list PySem.F.slot_list_append PySem.F.type_list_append mt_append (pv 1) (pa_cons (pe_lst (pa_cons (pv 2) pa_nil)) pa_nil))))
          (pss_one (ps_expr (pe_bm PySem.F.plainAttrs_list PySem.F.slot_list_append PySem.F.type_list_append mt_append (pe_ix ix_list (pv 1) (pe_ix ix_list (pv 4) pe_int (fun _ _ => rfl)) (fun _ _ => rfl)) (pa_cons (pv 2) pa_nil)))))))))
      (pss_one (ps_ret (pe_lc (own := [("turn", 6)]) (g := gName 6) (tt := tYes) (te := tCB (rTupOf K) (tCons (tLc (iTup K (tFld K (tVar 0) "names")) (gName 2) (tTest (tOp (rIn K false) (tVar 2) (tVar 6))) (tVar 2) [2]) tNil)) rfl scTurns.nd (pi_list (pv 1)) (blkOk_by (own := [("turn", 6)]) (N := nTurns) (sc := defScope sTurns) (by decide +kernel))
        (fun _ _ _ _ _ => pg_name (i := 6) scTurns.nd rfl (Or.inr rfl)) (fun _ _ _ _ _ => pts_nil)
        (fun _ _ _ _ _ => pe_callTy call_tuple_of (by rfl) T.b_tuple (by decide +kernel) (pa_cons
          (pe_lc (own := [("name", 2)]) (g := gName 2) (tt := tB (tOp (rIn K false) (tVar 2) (tVar 6))) (te := tVar 2) rfl scTurns.nd (pi_tup (pe_fld (pv 0) rfl)) (blkOk_by (by kernel_rfl))
            (fun _ _ _ _ _ => pg_name (i := 2) scTurns.nd rfl (Or.inl rfl)) (fun _ _ _ _ _ => pts_one (pt_cmpR op_in_seq (pv 2) (pv 6) rfl)) (fun _ _ _ _ _ => pv 2)) pa_nil)))))), ?_⟩
    refine q_asgL (el_lst ea_nil (by simp)) fun l H0 nl e0 hl => ?_
    have hR0 := hR.ex e0
    refine q_forN (A := A) (ss := (remS rows rts).reverse) (en_rev (en_rem (ev_var rfl) hR0 hrok hok (hT.ext e0))) fun a H1 e1 t1 ha => ?_
    have hl1 : H1 l = some (.lst []) := e1 _ _ hl nofun
    have nla : l = a → (remS rows rts).reverse = [] := fun z => by
      subst z
      rw [hl1] at ha
      have := congrArg (fun o => match o with | some (HO.lst xs) => xs.length | _ => 0) ha
      exact List.eq_nil_of_length_eq_zero (by simpa using this.symm)
    have eH : ∀ {H' : Hp}, ExO l H1 H' → ExtN H H' := fun e' b o hb n => e' b o (ne_of_none hb nl) (e1 b o (e0 b o hb) n)
    have fr1 : ∀ {H' : Hp} {b : Addr}, ExO l H1 H' → b ≠ l → H' b = none → H1 b = none := fun {H' b} e' n hb => by
      cases q : H1 b with
      | none => rfl
      | some o => rw [e' b o n q] at hb; cases hb
    refine ⟨fun i σ' H' => ∃ v2 v3 v4 ps, σ' = [some (.ref p), some (.ref l), v2, v3, v4, none, none, none] ∧ ExO l H1 H' ∧ FAt ps H1 H' l (dealtP rows rts i), ⟨none, none, none, [], rfl, fun b o _ h => h, hl1, .nil, .nil, fun p hp => absurd hp (by simp), by simp⟩, ?_, ?_, ?_⟩
    · rintro i σ' H' hi ⟨v2, v3, v4, ps, rfl, e2, fa⟩
      by_cases z : l = a
      · have hz := nla z
        subst z
        have h2 := fa.at_
        have hps : ps = [] := by
          have := fa.len
          rw [show dealtP rows rts i = [] by unfold dealtP; rw [hz]; simp [deal]] at this
          exact List.eq_nil_of_length_eq_zero this
        rw [h2, hz, hps]
        rfl
      · exact e2 _ _ (Ne.symm z) ha
    · rintro i x σ' H' hx ⟨v2, v3, v4, ps, rfl, e2, fa⟩
      have hxm : x ∈ nms rts := rem_in (List.mem_reverse.mp (List.mem_of_getElem? hx))
      have hR2 := hR.extN (eH e2)
      refine q_asgP (ep_metBy (ev_var rfl) (ev_var rfl) hR2 hrok hok hxm) fun v H3 e3 hv => ?_
      obtain ⟨q, rfl, hq⟩ := hv.sq (K := K)
      have ht := take_snoc hx
      have hdeal : dealtP rows rts (i + 1) = put (clashP (wyS rows rts) (nms rts) x) x (dealtP rows rts i) := by
        unfold dealtP
        rw [ht, deal_snoc]
      have hperm : (dealtP rows rts i).flatten.Perm ((remS rows rts).reverse.take i) := deal_perm _ _
      have hfl : (dealtP rows rts i).flatten.length ≤ 40 := by
        rw [hperm.length_eq, List.length_take, List.length_reverse, rem_len]
        omega
      have htl : (dealtP rows rts i).length ≤ 40 := by
        refine Nat.le_trans (deal_len _) ?_
        rw [List.length_take, List.length_reverse, rem_len]
        omega
      have hone : ∀ {k : Nat}, ((dealtP rows rts i).getD k []).length ≤ 40 := fun {k} => by
        by_cases hk : k < (dealtP rows rts i).length
        · refine Nat.le_trans (List.Sublist.length_le (List.sublist_flatten_of_mem (l := (dealtP rows rts i).getD k []) ?_)) hfl
          rw [List.getD_eq_getElem?_getD, List.getElem?_eq_getElem hk]
          exact List.getElem_mem hk
        · rw [List.getD_eq_getElem?_getD, List.getElem?_eq_none (by omega)]
          simp
      obtain ⟨ts, hts⟩ : ∃ ts, ts = dealtP rows rts i := ⟨_, rfl⟩
      rw [← hts] at fa hfl htl hdeal
      have hone : ∀ {k : Nat}, (ts.getD k []).length ≤ 40 := fun {k} => by
        rw [hts]
        exact hone
      have fa3 := fa.ex e3
      refine q_asgL (xs := ((frees (clashP (wyS rows rts) (nms rts) x) ts).map fun k : Nat => (k : Int)).map V.int) ?_ fun fr H4 nf e4 hf => ?_
      · rw [List.map_map]
        refine lcV (List.range ts.length) (fun k => !clashP (wyS rows rts) (nms rts) x (ts.getD k [])) (V.int ∘ fun k : Nat => (k : Int)) (src_len (src_enum (ea_cons (ev_var rfl) ea_nil) (sq_of fa3.at_)) (by simp [fa3.len])) (by simp; omega) (fun j y v H4 hy e4 hI => ?_)
        obtain ⟨TT, x', rfl, hTT, hx'⟩ := hI
        obtain ⟨hj, ey⟩ := List.getElem?_eq_some_iff.mp hy
        rw [List.getElem_range] at ey
        subst ey
        rw [List.length_range] at hj
        obtain ⟨p', h1', _, h3'⟩ := fa3.get hj
        obtain ⟨p'', rfl, h2'⟩ := refs_get hx'
        rw [h1'] at h2'
        cases h2'
        refine ⟨_, tgt_pair (st_of hTT) rfl, et_not (et_B (ev_anyc (ts.getD j []) (fun o => decide (o ∈ metBy (wyS rows rts) (nms rts) x)) (src_len (src_list (ev_var rfl) (sq_of (e4 _ _ h3'))) (by simp)) (by have := hone (k := j); omega) (fun j2 y2 v2 H5 hy2 e5 hI2 => ?_) rfl)), fun _ => ev_var rfl⟩
        have := item_str hI2 hy2
        subst this
        exact ⟨_, tgt_name rfl, ev_inT (ev_var rfl) (ev_var rfl) (ex_t (e4.trans e5) hq) rfl⟩
      · have fa4 := fa3.ex e4
        have e34 := e3.trans e4
        have hc : ∀ {b : Bool}, (frees (clashP (wyS rows rts) (nms rts) x) ts).isEmpty = b → EvT (tTest (tOp (rEqD K) (tVar 4) (tLst tNil))) [some (.ref p), some (.ref l), some (.str x), some (.ref q), some (.ref fr), none, none, none] H4 b := fun {b} hb => by
          refine et_test (ev_eqD (d := .list ((((frees (clashP (wyS rows rts) (nms rts) x) ts).map fun k : Nat => (k : Int))).map PyData.int)) (e := .list (([] : List Int).map PyData.int)) ((ep_of (ev_var (v := .ref fr) rfl)).imp fun v H' eX z => ?_) ((ep_l (el_lst ea_nil (by simp))).imp fun v H' _ ⟨q, z1, z2⟩ => ?_) (shaped_ints _) (shaped_ints _) ?_)
          · subst z
            exact .lst (sq_of (eX _ _ hf)) (dp_ints _)
          · subst z1
            exact .lst (sq_of z2) (dp_ints [])
          · rw [eqv_nilI, ← hb]
            simp
        unfold put at hdeal
        cases hfr : frees (clashP (wyS rows rts) (nms rts) x) ts with
        | nil =>
          refine s_if (b := true) (hc (by rw [hfr]; rfl)) (fun _ H5 e5 => ?_) (fun h => nomatch h)
          refine s_appL ((fa4.ex e5).at_) (ev_var rfl) (el_lst (ea_cons (ev_var (v := .str x) rfl) ea_nil) (by simp)) (by simp [fa.len]; omega) fun p' H6 n6 e6 h6 => ⟨_, _, _, ps ++ [p'], rfl, ?_, ?_⟩
          · intro b o n hb
            rw [upd_ne n]
            exact (e34.trans (e5.trans e6)) _ _ (e2 b o n hb)
          · have nl' : l ≠ p' := fun z => by
              have := (fa4.ex e5).at_
              rw [z, n6] at this
              cases this
            rw [hdeal, hfr]
            refine ((fa4.ex e5).ex e6).snoc (t := [x]) h6 ?_ (fun z => ?_) nl'
            · refine fr1 e2 (Ne.symm nl') ?_
              exact fresh_back (e34.trans e5) n6
            · obtain ⟨t, ht⟩ := (fa4.ex e5).isL z
              rw [n6] at ht
              cases ht
        | cons k r =>
          refine s_if (b := false) (hc (by rw [hfr]; rfl)) (fun h => nomatch h) (fun _ H5 e5 => ?_)
          have hk : k < ts.length := by
            have : k ∈ frees (clashP (wyS rows rts) (nms rts) x) ts := by rw [hfr]; exact List.mem_cons_self
            exact List.mem_range.mp (List.mem_filter.mp this).1
          have fa5 := fa4.ex e5
          obtain ⟨p', h1', h2', h3'⟩ := fa5.get hk
          have hf5 := e5 _ _ hf
          rw [hfr] at hf5
          refine s_app h3' (ev_ixL (i := (k : Int)) (ev_var rfl) (ev_ixL (v := .int (k : Int)) (ev_var rfl) ev_c (sq_of hf5) (at_nat (n := 0) rfl)) (sq_of fa5.at_) (at_nat (n := k) (by rw [List.getElem?_map, h1']; rfl))) (ev_var (v := .str x) rfl) (by rw [List.length_map]; have := hone (k := k); omega) fun H6 e6 => ⟨_, _, _, ps, rfl, ?_, ?_⟩
          · intro b o n hb
            have hne : b ≠ p' := fun z => by
              rw [z, fa5.new p' h2'] at hb
              cases hb
            rw [upd_ne hne]
            exact (e34.trans (e5.trans e6)) _ _ (e2 b o n hb)
          · have := (fa5.ex e6).set (t := ts.getD k [] ++ [x]) h1'
            rw [List.map_append] at this
            rw [hdeal, hfr]
            exact this
    · rintro σ' H' ⟨v2, v3, v4, ps, rfl, e2, fa⟩
      have hd : dealtP rows rts (remS rows rts).reverse.length = dealt sea rows rts := by
        unfold dealtP
        rw [List.take_length]
        exact dealt_prog hok.good
      rw [hd] at fa
      have hdl : (dealt sea rows rts).length ≤ 40 := by
        refine Nat.le_trans (deal_len _) ?_
        rw [List.length_reverse]
        exact Nat.le_trans (Nat.le_of_eq (rem_len rows rts)) hm
      have hR2 := hR.extN (eH e2)
      obtain ⟨dx, pr, an, ae, aw, as_, ke, kw, ks, h1, h2, h3, h4, h5, h6, h7, h8, h9⟩ := id hR2
      have hret : EvLP (tLc (iList K (tVar 1)) (gName 6) tYes (tCB (rTupOf K) (tCons (tLc (iTup K (tFld K (tVar 0) "names")) (gName 2) (tTest (tOp (rIn K false) (tVar 2) (tVar 6))) (tVar 2) [2]) tNil)) [6]) [some (.ref p), some (.ref l), v2, v3, v4, none, none, none] H'
          (fun acc H3 => ∃ D, Paired (fun (t : List Str) v => ∃ q, v = .ref q ∧ q ≠ D ∧ H3 q = some (.tup (((nms rts).filter fun x => decide (x ∈ t)).map V.str))) (dealt sea rows rts) acc) := by
        refine lcR (dealt sea rows rts) (fun D t v H3 => ∃ q, v = .ref q ∧ q ≠ D ∧ H3 q = some (.tup (((nms rts).filter fun x => decide (x ∈ t)).map V.str))) (fun D t v H4 H5 e ⟨q, z1, z2, z3⟩ => ⟨q, z1, z2, e _ _ z2 z3⟩) (src_len (src_list (ev_var rfl) (sq_of fa.at_)) (by simp [fa.len])) (by omega) (fun i t v H3 D acc hy e3 hD hI => ?_)
        obtain ⟨p', rfl, hp'⟩ := refs_get hI
        obtain ⟨t', ht1, ht2⟩ := paired_get fa.its hp'
        rw [hy] at ht1
        cases ht1
        refine ⟨_, tgt_name rfl, (ep_u (eu_tupOf (lcV (nms rts) (fun x => decide (x ∈ t)) V.str (src_len (src_tup (ev_fld (ev_var rfl) (e3 _ _ h1) T.clR T.nR_names (flR_names _ _ _ _ _)) (st_of (e3 _ _ h3))) (by simp)) (by rw [nms_len]; omega) (fun j o v H4 hri e4 hv => ?_)))).imp fun v H' eX ⟨q, z1, z2⟩ => ⟨q, z1, ?_, z2⟩⟩
        · have := item_str hv hri
          subst this
          exact ⟨_, tgt_name rfl, et_test (ev_inL (ev_var rfl) (ev_var rfl) (sq_of ((e3.trans e4) _ _ ht2)) rfl), fun _ => ev_var rfl⟩
        · exact ne_of z2 (eX _ _ hD) nofun
      refine hret H' (Ex.refl H') _ fun D acc H3 nD e3 hacc ⟨D', hp⟩ => ?_
      have hqs : ∀ {ys : List (List Str)} {acc : List V}, Paired (fun (t : List Str) v => ∃ q, v = .ref q ∧ q ≠ D' ∧ H3 q = some (.tup (((nms rts).filter fun x => decide (x ∈ t)).map V.str))) ys acc →
          ∃ qs : List Addr, acc = qs.map V.ref ∧ Paired (fun q (t : List Str) => H3 q = some (.tup (t.map V.str))) qs (ys.map fun t => (nms rts).filter fun x => decide (x ∈ t)) := by
        intro ys acc h
        induction h with
        | nil => exact ⟨[], rfl, .nil⟩
        | cons r t ih =>
          obtain ⟨q, rfl, _, z3⟩ := r
          obtain ⟨qs, rfl, hqs⟩ := ih
          exact ⟨q :: qs, rfl, .cons z3 hqs⟩
      obtain ⟨qs, rfl, hqs'⟩ := hqs hp
      exact k _ _ ((eH e2).trans (ExtN.of e3)) ((tabs_off t1 hl1 e2).ext e3) ⟨D, rfl, newN_of (eH e2) nD, qs, hacc, hqs'⟩
end
end Wk

/-! the law's bag -/
namespace Wk
open PySem PySem.Spec PyProof.Rows L2 Evl LamX
/-- at g lies a list of two whole numbers -/
def Bag (g : Addr) (H : Hp) : Prop := ∃ x y : Int, H g = some (.lst [.int x, .int y])
theorem Bag.ex {g : Addr} {H H' : Hp} (e : Ex H H') (h : Bag g H) : Bag g H' := by
  obtain ⟨x, y, h⟩ := h
  exact ⟨x, y, e _ _ h⟩
/-- what a def gives back that takes from the bag at g -/
def RetB (g : Addr) (P : V → Hp → Prop) (H : Hp) (Q : VK) : Prop := ∀ v H2, ExO g H H2 → Bag g H2 → P v H2 → Q v H2
theorem RetB.back {g : Addr} {P : V → Hp → Prop} {H H1 : Hp} {Q : VK} (k : RetB g P H Q) (e : ExO g H H1) : RetB g P H1 Q := fun v H2 e2 b p => k v H2 (e.trans e2) b p
/-- a whole number below n -/
def Dig (n : Int) (v : V) (_ : Hp) : Prop := ∃ r : Nat, v = .int (r : Int) ∧ (r : Int) < n
def spLTake : Sp := fun vs H Q _ => ∃ (g : Addr) (n : Int), vs = [.ref g, .int n] ∧ Bag g H ∧ 1 ≤ n ∧ n < 1000000 ∧ RetB g (Dig n) H Q
section
variable {σ : L2.St} {H : Hp} {ta tb te : TE}
theorem ev_int {i : Int} {ta : TA} (h : EvA ta σ H [.int i]) : Ev (tCB (fun xs H Q => (∃ i, xs = [V.int i] ∧ Q (.int i) H) ∨ ∃ k, xs = [V.bl k] ∧ Q (.int (if k then 1 else 0)) H) ta) σ H (.int i) := ev_cb h fun H1 _ Q q => .inl ⟨i, rfl, q H1 (Ex.refl _)⟩
theorem ev_abs {i : Int} {ta : TA} (h : EvA ta σ H [.int i]) : Ev (tCB (fun xs H Q => ∃ i, xs = [V.int i] ∧ Q (.int (if i < 0 then -i else i)) H) ta) σ H (.int (if i < 0 then -i else i)) := ev_cb h fun H1 _ Q q => ⟨i, rfl, q H1 (Ex.refl _)⟩
theorem ev_add {i j : Int} (ha : Ev ta σ H (.int i)) (hb : Ev tb σ H (.int j)) : Ev (tOp (rI0 fun i j => .int (i + j)) ta tb) σ H (.int (i + j)) := ev_op ha hb (rv_I0 (g := fun i j => V.int (i + j)))
theorem ev_mulR {i j : Int} (ha : Ev ta σ H (.int i)) (hb : Ev tb σ H (.int j)) (h : -(2 ^ 64) < j ∧ j < 2 ^ 64) : Ev (tOp (rI CMul fun i j => .int (i * j)) ta tb) σ H (.int (i * j)) := ev_op ha hb (rv_I (g := fun i j => V.int (i * j)) (.inr h))
theorem ev_mulL {i j : Int} (ha : Ev ta σ H (.int i)) (hb : Ev tb σ H (.int j)) (h : -(2 ^ 64) < i ∧ i < 2 ^ 64) : Ev (tOp (rI CMul fun i j => .int (i * j)) ta tb) σ H (.int (i * j)) := ev_op ha hb (rv_I (g := fun i j => V.int (i * j)) (.inl h))
theorem ev_mod {i j : Int} (ha : Ev ta σ H (.int i)) (hb : Ev tb σ H (.int j)) (h : 0 < j) : Ev (tOp (rI (fun _ j => 0 < j) fun i j => .int (i % j)) ta tb) σ H (.int (i % j)) := ev_op ha hb (rv_I (g := fun i j => V.int (i % j)) h)
theorem ev_div {i j : Int} (ha : Ev ta σ H (.int i)) (hb : Ev tb σ H (.int j)) (h : 0 < j ∧ j < 1073741824) : Ev (tOp (rI CDiv fun i j => .int (i / j)) ta tb) σ H (.int (i / j)) := ev_op ha hb (rv_I (g := fun i j => V.int (i / j)) h)
end
section
variable {P : Program} {w : World} {K : PySem.W.Frag} {mg : Str → Option Value} {base : Heap} {A : Adr}
def spLBag (K : PySem.W.Frag) : Sp := fun vs H Q _ => ∃ (a : Addr) (ns : List Int) (i : Nat) (z : Int), vs = [.ref a, .int (i : Int), .int z] ∧ SqL K H a (ns.map V.int) ∧ ns.length ≤ 63 ∧ (∀ g H2, H g = none → Ex H H2 → Bag g H2 → Q (.ref g) H2)
abbrev nLBag : List Str := ["_law_script", "_law_at", "_law_salt", "_law_cell", "_law_blend", "_law_k", "_law_each"]
theorem scLBag : FnScope nLBag ["_law_script", "_law_at", "_law_salt"] (defScope sLBag) := ⟨rfl, rfl, rfl, by decide +kernel, rfl, by decide +kernel, by decide +kernel⟩
theorem ok_lBag (T : Txt K mg A) : FnOk P w K mg base CX0 1 A.fLBag A.dLBag ["_law_script", "_law_at", "_law_salt"] (spLBag K) := by
  refine T.fnLBag.ok scLBag (fun vs H Q E h => ?_) (fun cdv AA outer s H vs Q E hr h => ?_)
  · obtain ⟨a, ns, i, z, rfl, _⟩ := h
    rfl
  · obtain ⟨a, ns, i, z, rfl, ha, hz, k⟩ := h
    refine ⟨_, pss_cons (ps_set (i := 3) scLBag.nd rfl (.inl rfl) (pe_ifExp (pt_cmpR op_lt (pv 1) (pe_callB call_len_seq (by rfl) T.b_len PySem.boot_len (pa_cons (pv 0) pa_nil)) (nomark _)) (pe_ix ix_list (pv 0) (pv 1) (fun _ _ => rfl)) pe_int))
      (pss_cons (ps_set (i := 4) scLBag.nd rfl (.inl rfl) (pe_op op_add (pv 2) (pe_op op_mul pe_int (pv 1))))
      (pss_cons (ps_for PassesOwn.never rfl (pi_enum (by rfl) T.b_enumerate (pa_cons (pe_slice sl_list (pv 0) po_none (po_some pe_int)) pa_nil)) (pg_tup rfl (pgs_cons (pg_name (i := 5) scLBag.nd rfl (.inl rfl)) (pgs_cons (pg_name (i := 6) scLBag.nd rfl (.inl rfl)) pgs_nil)))
        (pss_one (ps_set (i := 4) scLBag.nd rfl (.inl rfl) (pe_op op_mod (pe_callTy call_int1 (by rfl) T.b_int (by decide +kernel) (pa_cons
          (pe_op op_add (pe_op op_add (pe_op op_add (pe_op op_mul (pv 4) pe_int) (pe_op op_mod (pe_callTy call_int1 (by rfl) T.b_int (by decide +kernel) (pa_cons (pv 6) pa_nil)) pe_int)) (pe_op op_mul pe_int (pv 5))) pe_int) pa_nil)) pe_int))))
      (pss_one (ps_ret (pe_lst (pa_cons (pe_ifExp (pt_cmpR op_ge (pe_callB call_abs (by rfl) T.b_abs (by decide +kernel) (pa_cons (pv 3) pa_nil)) (pe_op op_pow pe_int pe_int) (nomark _)) (pe_callB call_abs (by rfl) T.b_abs (by decide +kernel) (pa_cons (pv 3) pa_nil)) pe_int) (pa_cons (pv 4) pa_nil))))))), ?_⟩
    have e10 : (10 : Int) ^ (Int.toNat 18) = 1000000000000000000 := by decide
    refine q_asg (v := .int (if i < ns.length then ns.getD i 0 else 0)) (ev_if (b := decide (i < ns.length)) (et_test (ev_cmpI (f := fun i j => decide (i < j)) (ev_var rfl) (ev_lenSq (ea_cons (ev_var rfl) ea_nil) (.inl ha)) (by rw [List.length_map, decide_eq_decide]; omega))) (fun h => ?_) (fun h => ?_)) fun H1 e1 => ?_
    · have hi : i < ns.length := of_decide_eq_true h
      rw [if_pos hi]
      refine ev_ixL (ev_var rfl) (ev_var rfl) ha (at_nat ?_)
      rw [List.getElem?_map, List.getElem?_eq_getElem hi, List.getD_eq_getElem?_getD, List.getElem?_eq_getElem hi]
      rfl
    · rw [if_neg (of_decide_eq_false h)]
      exact ev_c
    generalize (if i < ns.length then ns.getD i 0 else 0) = c
    refine q_asg (ev_add (ev_var rfl) (ev_mulL ev_c (ev_var rfl) (by decide))) fun H2 e2 => ?_
    have e12 := e1.trans e2
    refine q_forEN (el_sl (ev_var rfl) eo_none (eo_some ev_c) (ex_l e12 ha)) (fun p n σ' H' => ∃ (b : Int) (v5 v6 : Option V), σ' = [some (.ref a), some (.int (i : Int)), some (.int z), some (.int c), some (.int b), v5, v6] ∧ Ex H H' ∧ H' p = some (.lst (cutV (ns.map V.int) none (some 63))))
      (fun p H3 n3 e3 h3 => ⟨_, none, none, rfl, e12.trans e3, h3⟩) (fun p n σ' H' _ ⟨_, _, _, _, _, h⟩ => sq_of h) ?_ ?_
    · rintro p n x σ' H' TT hx ⟨b, v5, v6, rfl, e3, h3⟩ hT
      have hxm : x ∈ ns.map V.int := List.mem_of_mem_drop (List.mem_of_mem_take (List.mem_of_getElem? hx))
      obtain ⟨y, _, rfl⟩ := List.mem_map.mp hxm
      refine g_pair (st_of upd_same) ?_
      refine s_asg (ev_mod (ev_int (ea_cons (ev_add (ev_add (ev_add (ev_mulR (ev_var rfl) ev_c (by decide)) (ev_mod (ev_int (ea_cons (ev_var rfl) ea_nil)) ev_c (by decide))) (ev_mulL ev_c (ev_var rfl) (by decide))) ev_c) ea_nil)) ev_c (by decide)) fun H4 e4 => ⟨_, _, _, rfl, (e3.trans (Ex.new hT)).trans e4, e4 _ _ ?_⟩
      rw [upd_ne (ne_of_none h3 hT)]
      exact h3
    · rintro p σ' H' ⟨b, v5, v6, rfl, e3, h3⟩
      have hc : ∃ d : Int, Ev (tIf (tTest (tOp (rI0 fun i j => .bl (decide (j ≤ i))) (tCB (fun xs H Q => ∃ i, xs = [V.int i] ∧ Q (.int (if i < 0 then -i else i)) H) (tCons (tVar 3) tNil)) (tOp (rI CPow fun i j => .int (i ^ j.toNat)) (tC (.int 10)) (tC (.int 18)))))
          (tCB (fun xs H Q => ∃ i, xs = [V.int i] ∧ Q (.int (if i < 0 then -i else i)) H) (tCons (tVar 3) tNil)) (tC (.int 0))) [some (.ref a), some (.int (i : Int)), some (.int z), some (.int c), some (.int b), v5, v6] H' (.int d) := by
        by_cases hq : (10 : Int) ^ (Int.toNat 18) ≤ (if c < 0 then -c else c)
        · exact ⟨_, ev_if (b := true) (et_test (ev_cmpI (f := fun i j => decide (j ≤ i)) (ev_abs (ea_cons (ev_var rfl) ea_nil)) (ev_op ev_c ev_c (rv_I (g := fun i j => V.int (i ^ j.toNat)) ⟨by decide, by decide, by decide⟩)) (decide_eq_true hq))) (fun _ => ev_abs (ea_cons (ev_var rfl) ea_nil)) (fun h => nomatch h)⟩
        · exact ⟨_, ev_if (b := false) (et_test (ev_cmpI (f := fun i j => decide (j ≤ i)) (ev_abs (ea_cons (ev_var rfl) ea_nil)) (ev_op ev_c ev_c (rv_I (g := fun i j => V.int (i ^ j.toNat)) ⟨by decide, by decide, by decide⟩)) (decide_eq_false hq))) (fun h => nomatch h) (fun _ => ev_c)⟩
      obtain ⟨d, hd⟩ := hc
      exact s_retL (el_lst (ea_cons hd (ea_cons (ev_var rfl) ea_nil)) (by simp)) fun g H4 n4 e4 h4 => k g H4 (fresh_back e3 n4) (e3.trans e4) ⟨_, _, h4⟩
abbrev nLTake : List Str := ["_law_bag_here", "_law_many", "_law_digit"]
theorem scLTake : FnScope nLTake ["_law_bag_here", "_law_many"] (defScope sLTake) := ⟨rfl, rfl, rfl, by decide +kernel, rfl, by decide +kernel, by decide +kernel⟩
theorem dig_of {a n : Int} (hn : 1 ≤ n) {H : Hp} : Dig n (.int (a % n)) H := ⟨(a % n).toNat, by rw [Int.toNat_of_nonneg (Int.emod_nonneg _ (by omega))], by
  rw [Int.toNat_of_nonneg (Int.emod_nonneg _ (by omega))]
  exact Int.emod_lt_of_pos _ (by omega)⟩
theorem ok_lTake (T : Txt K mg A) : FnOk P w K mg base CX0 1 A.fLTake A.dLTake ["_law_bag_here", "_law_many"] spLTake := by
  refine T.fnLTake.ok scLTake (fun vs H Q E h => ?_) (fun cdv AA outer s H vs Q E hr h => ?_)
  · obtain ⟨g, n, rfl, _⟩ := h
    rfl
  · obtain ⟨g, n, rfl, ⟨x, y, hg⟩, hn, hn2, k⟩ := h
    refine ⟨_, pss_cons (ps_if (pt_cmpR op_gt (pe_ix ix_list (pv 0) pe_int (fun _ _ => rfl)) pe_int (nomark _))
        (pss_cons (ps_set (i := 2) scLTake.nd rfl (.inl rfl) (pe_op op_mod (pe_callTy call_int1 (by rfl) T.b_int (by decide +kernel) (pa_cons (pe_ix ix_list (pv 0) pe_int (fun _ _ => rfl)) pa_nil)) (pv 1)))
        (pss_cons (ps_asg (pe_op op_fdiv (pe_ix ix_list (pv 0) pe_int (fun _ _ => rfl)) (pv 1)) (pg_sub (pv 0) pe_int set_list))
        (pss_one (ps_ret (pv 2))))) pss_nil)
      (pss_cons (ps_asg (pe_op op_mod (pe_callTy call_int1 (by rfl) T.b_int (by decide +kernel) (pa_cons (pe_op op_add (pe_op op_mul (pe_ix ix_list (pv 0) pe_int (fun _ _ => rfl)) pe_int) pe_int) pa_nil)) pe_int) (pg_sub (pv 0) pe_int set_list))
      (pss_one (ps_ret (pe_op op_mod (pe_op op_fdiv (pe_op op_mod (pe_callTy call_int1 (by rfl) T.b_int (by decide +kernel) (pa_cons (pe_op op_mul (pe_op op_fdiv (pe_ix ix_list (pv 0) pe_int (fun _ _ => rfl)) pe_int) pe_int) pa_nil)) pe_int) pe_int) (pv 1))))), ?_⟩
    have hL : ∀ {a b : Int} {H' : Hp}, H' g = some (.lst [.int a, .int b]) → ∀ {v2 : Option V}, Ev (tOp (rIxL K) (tVar 0) (tC (.int 0))) [some (.ref g), some (.int n), v2] H' (.int a) := fun {a b H'} h {v2} => ev_ixL (ev_var rfl) ev_c (sq_of h) (at_nat (n := 0) rfl)
    have hRt : ∀ {a b : Int} {H' : Hp}, H' g = some (.lst [.int a, .int b]) → ∀ {v2 : Option V}, Ev (tOp (rIxL K) (tVar 0) (tC (.int 1))) [some (.ref g), some (.int n), v2] H' (.int b) := fun {a b H'} h {v2} => ev_ixL (ev_var rfl) ev_c (sq_of h) (at_nat (n := 1) rfl)
    have hpos : 0 < n := by omega
    have hdiv : 0 < n ∧ n < 1073741824 := ⟨by omega, by omega⟩
    have ht : ∀ {b : Bool}, decide (0 < x) = b → EvT (tTest (tOp (rI0 fun i j => .bl (decide (j < i))) (tOp (rIxL K) (tVar 0) (tC (.int 0))) (tC (.int 0)))) [some (.ref g), some (.int n), none] H b := fun {b} e => et_test (ev_cmpI (f := fun i j => decide (j < i)) (hL hg) ev_c e)
    by_cases hx : 0 < x
    · refine q_when (b := true) (ht (decide_eq_true hx)) (fun _ H1 e1 => ?_) (fun h => nomatch h)
      refine q_asg (ev_mod (ev_int (ea_cons (hL (e1 _ _ hg)) ea_nil)) (ev_var rfl) hpos) fun H2 e2 => ?_
      have hg2 := (e1.trans e2) _ _ hg
      refine q_setL (j := 0) hg2 (ev_div (hL hg2) (ev_var rfl) hdiv) (ev_var rfl) ev_c (by simp) fun H3 e3 => ?_
      refine s_ret (ev_var (v := .int (x % n)) rfl) fun H4 e4 => ?_
      exact k _ H4 ((ExO.of ((e1.trans e2).trans e3)).up.trans (ExO.of e4)) ⟨_, y, e4 _ _ (by rw [upd_same]; rfl)⟩ (dig_of hn)
    · refine q_when (b := false) (ht (decide_eq_false hx)) (fun h => nomatch h) (fun _ H1 e1 => ?_)
      have hg1 := e1 _ _ hg
      refine q_setL (j := 1) hg1 (ev_mod (ev_int (ea_cons (ev_add (ev_mulR (hRt hg1) ev_c (by decide)) ev_c) ea_nil)) ev_c (by decide)) (ev_var rfl) ev_c (by simp) fun H3 e3 => ?_
      refine s_ret (ev_mod (ev_div (ev_mod (ev_int (ea_cons (ev_mulR (ev_div (hRt (a := x) (by rw [upd_same]; rfl)) ev_c (by decide)) ev_c (by decide)) ea_nil)) ev_c (by decide)) ev_c (by decide)) (ev_var rfl) hpos) fun H4 e4 => ?_
      exact k _ H4 ((ExO.of (e1.trans e3)).up.trans (ExO.of e4)) ⟨x, _, e4 _ _ (by rw [upd_same]; rfl)⟩ (dig_of hn)
end
end Wk

/-! of, mixed -/
namespace Wk
open PySem PySem.Spec PyProof.Rows L2 Evl LamX
/-- take(bag, n) -/
theorem eb_take {σ : L2.St} {H : Hp} {ta tb : TE} {g : Addr} {n : Int} {E : XK} {Q : VK} (hg : Ev ta σ H (.ref g)) (hn : Ev tb σ H (.int n)) (b : Bag g H) (h1 : 1 ≤ n) (h2 : n < 1000000) (k : ∀ (r : Nat) H2, (r : Int) < n → ExO g H H2 → Bag g H2 → Q (.int (r : Int)) H2) :
    tCall spLTake [] E (tCons ta (tCons tb tNil)) σ H Q := hg H (Ex.refl H) _ fun H1 e1 => hn H1 e1 _ fun H2 e2 => ⟨g, n, rfl, b.ex (e1.trans e2), h1, h2, fun v H3 e3 b3 ⟨r, ev, hr⟩ => by
  subst ev
  exact k r H3 hr ((ExO.of (e1.trans e2)).trans e3) b3⟩
theorem rt_op {r : R2} {ta tb : TE} {D : Ends} {σ : L2.St} {H : Hp} (h : ta σ H fun x H1 => tb σ H1 fun y H2 => r x y H2 D.rt) : tRet (tOp r ta tb) D σ H := h
theorem q_asgC {te : TE} {i : Nat} {tz : TS} {D : Ends} {σ : L2.St} {H : Hp} (h : te σ H fun v H1 => tz D (σ.set i (some v)) H1) : tSeq (tAsg te (gName i)) tz D σ H := h
theorem q_par2L {ta tb : TE} {i j : Nat} {tz : TS} {D : Ends} {σ : L2.St} {H : Hp} {xs ys : List V} (h1 : EvL ta σ H xs) (h2 : EvL tb σ H ys) (k : ∀ p q H2, H p = none → H q = none → p ≠ q → Ex H H2 → H2 p = some (.lst xs) → H2 q = some (.lst ys) → tz D ((σ.set i (some (.ref p))).set j (some (.ref q))) H2) :
    tSeq (tPar i j (tCons ta (tCons tb tNil))) tz D σ H := h1 H (Ex.refl H) _ fun p H1 np e1 hp => h2 H1 e1 _ fun q H2 nq e2 hq => ⟨.ref p, .ref q, rfl, k p q H2 np (fresh_back e1 nq) (fun z => by
  rw [z, nq] at hp
  cases hp) (e1.trans e2) (e2 _ _ hp) hq⟩
theorem el_listL {K : PySem.W.Frag} {te : TE} {σ : L2.St} {H : Hp} {p : Addr} {xs : List V} (h : Ev te σ H (.ref p)) (hp : SqL K H p xs ∨ SqT K H p xs) : EvL (tCB (fun xs H Q => ∃ p ys, xs = [V.ref p] ∧ (SqL K H p ys ∨ SqT K H p ys) ∧ ∀ l, H l = none → Q (.ref l) (upd H l (.lst ys))) (tCons te tNil)) σ H xs := fun H1 e Q q =>
  h H1 e _ fun H2 e2 => ⟨p, xs, rfl, hp.imp (ex_l (e.trans e2)) (ex_t (e.trans e2)), fun l hl => q l _ (fresh_back e2 hl) (e2.trans (Ex.new hl)) upd_same⟩
theorem seqIx {j n : Nat} (h : j < n) : seqIndex? (j : Int) n = some j := by
  have hn : ¬ ((j : Int) < 0) := by omega
  unfold seqIndex?
  simp only [if_neg hn]
  rw [if_pos (by simp; omega), Int.toNat_natCast]
theorem perm_erase {α : Type} {l : List α} {i : Nat} {y : α} (h : l[i]? = some y) : (y :: l.eraseIdx i).Perm l := by
  induction l generalizing i with
  | nil => simp at h
  | cons a r ih =>
    cases i with
    | zero =>
      simp at h
      subst h
      exact .refl _
    | succ i =>
      rw [List.eraseIdx_cons_succ]
      exact (List.Perm.swap a y _).trans ((ih (by simpa using h)).cons a)
theorem s_dropC {te : TE} {D : Ends} {σ : L2.St} {H : Hp} (h : te σ H fun _ H1 => D.nx σ H1) : tDrop te D σ H := h
theorem c_bm {K : PySem.W.Frag} {T : String} {r : V → List V → Hp → VK → Prop} {to : TE} {t : TA} {σ : L2.St} {H : Hp} {Q : VK} (h : to σ H fun x H1 => tyV K T x H1 ∧ t σ H1 fun xs H2 => r x xs H2 Q) : tBM K T r to t σ H Q := h
theorem c_one {te : TE} {σ : L2.St} {H : Hp} {Q : List V → Hp → Prop} (h : te σ H fun v H1 => Q [v] H1) : tCons te tNil σ H Q := h
def spLOf : Sp := fun vs H Q _ => ∃ (g b : Addr) (xs : List V), vs = [.ref g, .ref b] ∧ Bag g H ∧ b ≠ g ∧ H b = some (.lst xs) ∧ 1 ≤ xs.length ∧ xs.length ≤ 1000 ∧ RetB g (fun v _ => v ∈ xs) H Q
def spLMixed : Sp := fun vs H Q _ => ∃ (g b : Addr) (xs : List V), vs = [.ref g, .ref b] ∧ Bag g H ∧ b ≠ g ∧ H b = some (.lst xs) ∧ xs.length ≤ 1000 ∧ ∀ p ys H2, H p = none → ExO g H H2 → Bag g H2 → H2 p = some (.lst ys) → ys.Perm xs → Q (.ref p) H2
section
variable {P : Program} {w : World} {K : PySem.W.Frag} {mg : Str → Option Value} {base : Heap} {A : Adr}
abbrev nLOf : List Str := ["_law_bag_here", "_law_some"]
theorem scLOf : FnScope nLOf nLOf (defScope sLOf) := ⟨rfl, rfl, rfl, by decide +kernel, rfl, by decide +kernel, by decide +kernel⟩
theorem ok_lOf (T : Txt K mg A) : FnOk P w K mg base CX0 2 A.fLOf A.dLOf nLOf spLOf := by
  have GT : FnOk P w K mg base CX0 1 A.fLTake A.dLTake ["_law_bag_here", "_law_many"] spLTake := ok_lTake T
  refine T.fnLOf.ok scLOf (fun vs H Q E h => ?_) (fun cdv AA outer s H vs Q E hr h => ?_)
  · obtain ⟨g, b, xs, rfl, _⟩ := h
    rfl
  · obtain ⟨g, b, xs, rfl, hB, hbg, hb, h1, hz, k⟩ := h
    refine ⟨_, pss_one (ps_ret (pe_ix ix_list (pv 1) (pe_call GT hr rfl T.mgLTake T.fnLTake.kp T.bdLTake .nil pass0 (pa_cons (pv 0) (pa_cons (pe_callB call_len_seq (by rfl) T.b_len PySem.boot_len (pa_cons (pv 1) pa_nil)) pa_nil))) (fun _ _ => rfl))), ?_⟩
    refine rt_op ?_
    refine (ev_var (v := .ref b) rfl) H (Ex.refl H) _ fun H1 e1 => eb_take (ev_var (v := .ref g) rfl) (ev_lenSq (ea_cons (ev_var rfl) ea_nil) (.inl (sq_of (e1 _ _ hb)))) (hB.ex e1) (by omega) (by omega) fun r H2 hr2 e2 b2 => ?_
    have hr3 : r < xs.length := by omega
    exact ⟨b, xs, (r : Int), xs[r], rfl, rfl, sq_of (e2 _ _ hbg (e1 _ _ hb)), at_nat (List.getElem?_eq_getElem hr3), k _ H2 ((ExO.of e1).trans e2) b2 (List.getElem_mem hr3)⟩
abbrev nLMixed : List Str := ["_law_bag_here", "_law_some", "_law_rest", "_law_found", "_law_k"]
theorem scLMixed : FnScope nLMixed ["_law_bag_here", "_law_some"] (defScope sLMixed) := ⟨rfl, rfl, rfl, by decide +kernel, rfl, by decide +kernel, by decide +kernel⟩
theorem ok_lMixed (T : Txt K mg A) : FnOk P w K mg base CX0 2 A.fLMixed A.dLMixed ["_law_bag_here", "_law_some"] spLMixed := by
  have GT : FnOk P w K mg base CX0 1 A.fLTake A.dLTake ["_law_bag_here", "_law_many"] spLTake := ok_lTake T
  refine T.fnLMixed.ok scLMixed (fun vs H Q E h => ?_) (fun cdv AA outer s H vs Q E hr h => ?_)
  · obtain ⟨g, b, xs, rfl, _⟩ := h
    rfl
  · obtain ⟨g, b, xs, rfl, hB, hbg, hb, hz, k⟩ := h
    refine ⟨_, pss_cons (ps_par (i := 2) (j := 3) rfl scLMixed.nd rfl rfl (by decide) rfl rfl (pa_cons (pe_callTy call_list_of (by rfl) T.b_list (by decide +kernel) (pa_cons (pv 1) pa_nil)) (pa_cons (pe_lst pa_nil) pa_nil)) rfl)
      (pss_cons (ps_for PassesOwn.never rfl (pi_range1 (by rfl) T.b_range (pa_cons (pe_callB call_len_seq (by rfl) T.b_len PySem.boot_len (pa_cons (pv 1) pa_nil)) pa_nil)) (pg_name (i := 4) scLMixed.nd rfl (Or.inl rfl))
        (pss_one (ps_expr (pe_bm PySem.F.plainAttrs_list PySem.F.slot_list_append PySem.F.type_list_append mt_append (pv 3) (pa_cons
          (pe_bm PySem.F.plainAttrs_list PySem.F.slot_list_pop PySem.F.type_list_pop mt_popAt (pv 2) (pa_cons (pe_call GT hr rfl T.mgLTake T.fnLTake.kp T.bdLTake .nil pass0 (pa_cons (pv 0) (pa_cons (pe_callB call_len_seq (by rfl) T.b_len PySem.boot_len (pa_cons (pv 2) pa_nil)) pa_nil))) pa_nil)) pa_nil)))))
      (pss_one (ps_ret (pv 3)))), ?_⟩
    have ng : ∀ {p : Addr}, H p = none → p ≠ g := fun n z => by
      obtain ⟨x, y, hg⟩ := hB
      rw [z, hg] at n
      cases n
    refine q_par2L (xs := xs) (ys := []) (el_listL (ev_var rfl) (.inl (sq_of hb))) (el_lst ea_nil (by simp)) fun r f H0 nr nf hrf e0 hr0 hf0 => ?_
    refine q_forR1 (n := (xs.length : Int)) (ea_cons (ev_lenSq (ea_cons (ev_var rfl) ea_nil) (.inl (sq_of (e0 _ _ hb)))) ea_nil) (by omega)
      (fun i σ' H' => ∃ (v4 : Option V) (rest found : List V), σ' = [some (.ref g), some (.ref b), some (.ref r), some (.ref f), v4] ∧ ExO g H H' ∧ Bag g H' ∧ H' r = some (.lst rest) ∧ H' f = some (.lst found) ∧ rest.length + i = xs.length ∧ (found ++ rest).Perm xs)
      (fun H1 e1 => ⟨none, xs, [], rfl, ExO.of (e0.trans e1), hB.ex (e0.trans e1), e1 _ _ hr0, e1 _ _ hf0, by omega, .refl _⟩) ?_ ?_
    · rintro i σ' H' hi ⟨v4, rest, found, rfl, e1, b1, hrr, hff, hlen, hperm⟩
      have hfl : found.length ≤ xs.length := by
        have := hperm.length_eq
        rw [List.length_append] at this
        omega
      refine s_dropC (c_bm ?_)
      refine (ev_var (v := .ref f) rfl) H' (Ex.refl H') _ fun H2 e2 => ⟨.inl ⟨rfl, found, sq_of (e2 _ _ hff)⟩, c_one (c_bm ?_)⟩
      refine (ev_var (v := .ref r) rfl) H2 (Ex.refl H2) _ fun H3 e3 => ⟨.inl ⟨rfl, rest, sq_of ((e2.trans e3) _ _ hrr)⟩, c_one ?_⟩
      have e23 := e2.trans e3
      refine eb_take (ev_var (v := .ref g) rfl) (ev_lenSq (ea_cons (ev_var rfl) ea_nil) (.inl (sq_of (e23 _ _ hrr)))) (b1.ex e23) (by omega) (by omega) fun j H4 hj e4 b4 => ?_
      have hj' : j < rest.length := by omega
      have hr4 : H4 r = some (.lst rest) := e4 _ _ (ng nr) (e23 _ _ hrr)
      have hf4 : H4 f = some (.lst found) := e4 _ _ (ng nf) (e23 _ _ hff)
      have hy := List.getElem?_eq_getElem hj'
      refine ⟨r, rest, (j : Int), j, rest[j], rfl, rfl, hr4, by omega, by omega, seqIx hj', hy, f, found, rest[j], rfl, rfl, by rw [upd_ne (Ne.symm hrf)]; exact hf4, sz_lt (by omega), ?_⟩
      have e5 : ExO g H H4 := (e1.trans (ExO.of e23)).trans e4
      refine ⟨_, rest.eraseIdx j, found ++ [rest[j]], rfl, ?_, ?_, ?_, upd_same, ?_, ?_⟩
      · intro c o n h
        have n1 : c ≠ r := fun z => by rw [z, nr] at h; cases h
        have n2 : c ≠ f := fun z => by rw [z, nf] at h; cases h
        rw [upd_ne n2, upd_ne n1]
        exact e5 c o n h
      · obtain ⟨x, y, hg⟩ := b4
        exact ⟨x, y, by rw [upd_ne (Ne.symm (ng nf)), upd_ne (Ne.symm (ng nr))]; exact hg⟩
      · rw [upd_ne hrf, upd_same]
      · rw [List.length_eraseIdx_of_lt hj']
        omega
      · rw [List.append_assoc]
        exact ((perm_erase hy).append_left found).trans hperm
    · rintro σ' H' ⟨v4, rest, found, rfl, e1, b1, hrr, hff, hlen, hperm⟩
      have hrest : rest = [] := List.eq_nil_of_length_eq_zero (by rw [Int.toNat_natCast] at hlen; omega)
      subst hrest
      rw [List.append_nil] at hperm
      exact s_ret (ev_var (v := .ref f) rfl) fun H2 e2 => k f found H2 nf (e1.trans (ExO.of e2)) (b1.ex e2) (e2 _ _ hff) hperm
end
end Wk

/-! the names that the law makes: plain lists of signs -/
namespace Wk
open PySem L2 TL
def fm (sh : Nat) (b : List Nat) (mk : Nat → List Nat) (k : Nat) : List Nat :=
  match sh with
  | 0 => b ++ mk k
  | 1 => mk k ++ b
  | 2 => mk k ++ b.take (k % (b.length + 1))
  | _ => b.take 1 ++ mk k ++ b.drop 1
def seaL : List Nat := [115, 101, 97]
def seasL : List Nat := [115, 101, 97, 115]
def nmL (sh : Nat) (b : List Nat) (mk : Nat → List Nat) (k : Nat) : List Nat := if fm sh b mk k = seaL then seasL else fm sh b mk k
section
variable {sh : Nat} {b : List Nat} {mk : Nat → List Nat} {m n : Nat}
theorem fm_inj (hm : ∀ k, (mk k).length = m) (hi : ∀ k k', k < n → k' < n → mk k = mk k' → k = k') {k k' : Nat} (hk : k < n) (hk' : k' < n) (e : fm sh b mk k = fm sh b mk k') : k = k' := by
  refine hi k k' hk hk' ?_
  have hl : (mk k).length = (mk k').length := by rw [hm, hm]
  unfold fm at e
  split at e
  · exact List.append_cancel_left e
  · exact (List.append_inj e hl).1
  · exact (List.append_inj e hl).1
  · rw [List.append_assoc, List.append_assoc] at e
    exact (List.append_inj (List.append_cancel_left e) hl).1
theorem take_drop_len {k : Nat} : (b.take 1 ++ mk k ++ b.drop 1).length = b.length + (mk k).length := by
  rw [List.length_append, List.length_append, List.length_take, List.length_drop]
  omega
theorem fm_sea (hm : ∀ k, (mk k).length = m) (hm2 : m ≤ 2) (hi : ∀ k k', k < n → k' < n → mk k = mk k' → k = k') {k k' : Nat} (hk : k < n) (hk' : k' < n) (e : fm sh b mk k = seaL) : fm sh b mk k' ≠ seasL := by
  intro e'
  have l1 := congrArg List.length e
  have l2 := congrArg List.length e'
  unfold fm at e e' l1 l2
  have hk1 := hm k
  have hk2 := hm k'
  split at e
  · simp only [List.length_append, seaL, seasL, List.length_cons, List.length_nil] at l1 l2
    omega
  · simp only [List.length_append, seaL, seasL, List.length_cons, List.length_nil] at l1 l2
    omega
  · have t1 := congrArg (List.take m) e
    have t2 := congrArg (List.take m) e'
    simp only at t1 t2
    rw [List.take_append_of_le_length (by omega), List.take_of_length_le (by omega)] at t1 t2
    have : seaL.take m = seasL.take m := by
      have : m = 0 ∨ m = 1 ∨ m = 2 := by omega
      rcases this with z | z | z <;> subst z <;> rfl
    have := hi k k' hk hk' (by rw [t1, t2, this])
    subst this
    have e' : mk k ++ b.take (k % (b.length + 1)) = seasL := e'
    rw [e] at e'
    exact absurd e' (by decide)
  · simp only [take_drop_len, seaL, seasL, List.length_cons, List.length_nil] at l1 l2
    omega
theorem nmL_inj (hm : ∀ k, (mk k).length = m) (hm2 : m ≤ 2) (hi : ∀ k k', k < n → k' < n → mk k = mk k' → k = k') {k k' : Nat} (hk : k < n) (hk' : k' < n) (e : nmL sh b mk k = nmL sh b mk k') : k = k' := by
  unfold nmL at e
  split at e
  · rename_i h1
    split at e
    · rename_i h2
      exact fm_inj hm hi hk hk' (h1.trans h2.symm)
    · exact absurd e.symm (fm_sea hm hm2 hi hk hk' h1)
  · split at e
    · rename_i h2
      exact absurd e (fm_sea hm hm2 hi hk' hk h2)
    · exact fm_inj hm hi hk hk' e
theorem nmL_sea {k : Nat} : nmL sh b mk k ≠ seaL := by
  unfold nmL
  split
  · decide
  · assumption
theorem fm_len {k : Nat} (h1 : 1 ≤ (mk k).length) (h2 : (mk k).length ≤ 2) (hb : b.length ≤ 6) : 1 ≤ (fm sh b mk k).length ∧ (fm sh b mk k).length ≤ 8 := by
  unfold fm
  split
  · rw [List.length_append]; omega
  · rw [List.length_append]; omega
  · rw [List.length_append, List.length_take]; omega
  · rw [take_drop_len]; omega
theorem fm_mem {k : Nat} {L : List Nat} (hb : ∀ c ∈ b, c ∈ L) (hk : ∀ c ∈ mk k, c ∈ L) : ∀ c ∈ fm sh b mk k, c ∈ L := by
  unfold fm
  split <;> intro c hc
  · exact (List.mem_append.mp hc).elim (hb c) (hk c)
  · exact (List.mem_append.mp hc).elim (hk c) (hb c)
  · exact (List.mem_append.mp hc).elim (hk c) fun z => hb c (List.mem_of_mem_take z)
  · rcases List.mem_append.mp hc with z | z
    · exact (List.mem_append.mp z).elim (fun z => hb c (List.mem_of_mem_take z)) (hk c)
    · exact hb c (List.mem_of_mem_drop z)
end
/-- the marks -/
def markL (s n k : Nat) : List Nat := [97 + (s + 5 * k) % 26] ++ (if 26 < n then [97 + k / 26] else [])
theorem markL_len (s n k : Nat) : (markL s n k).length = if 26 < n then 2 else 1 := by
  unfold markL
  split <;> rfl
theorem markL_inj {s n k k' : Nat} (hn : n ≤ 40) (hk : k < n) (hk' : k' < n) (e : markL s n k = markL s n k') : k = k' := by
  unfold markL at e
  split at e
  · simp only [List.cons_append, List.nil_append, List.cons.injEq, and_true] at e
    omega
  · simp only [List.append_nil, List.cons.injEq, and_true] at e
    omega
theorem tl_letters : tl letters = (List.range 26).map (97 + ·) := by decide +kernel
theorem let_mem {i : Nat} (h : i < 26) : 97 + i ∈ tl letters := by
  rw [tl_letters]
  exact List.mem_map.mpr ⟨i, List.mem_range.mpr h, rfl⟩
theorem let_at {i : Nat} (h : i < 26) : (tl letters)[i]? = some (97 + i) := by
  rw [tl_letters, List.getElem?_map, List.getElem?_range h]
  rfl
theorem tl_sea : tl sea = seaL := by decide +kernel
/-- the k-th name -/
def nmS (sh : Nat) (b : Str) (s n k : Nat) : Str := ⟨(nmL sh (tl b) (markL s n) k).toArray⟩
theorem nmS_ok {sh : Nat} {b : Str} {s n k : Nat} (hb : b.length ≤ 6) (hc : ∀ c ∈ tl b, c ∈ tl letters) (hk : k < n) (hn : n ≤ 40) : IsNm (nmS sh b s n k) ∧ nmS sh b s n k ≠ sea := by
  have h1 : (markL s n k).length = 1 ∨ (markL s n k).length = 2 := by rw [markL_len]; split <;> simp
  have hmk : ∀ c ∈ markL s n k, c ∈ tl letters := by
    intro c h
    unfold markL at h
    rcases List.mem_append.mp h with z | z
    · rw [List.mem_singleton.mp z]
      exact let_mem (Nat.mod_lt _ (by decide))
    · split at z
      · rw [List.mem_singleton.mp z]
        exact let_mem (by omega)
      · simp at z
  have hl := fm_len (sh := sh) (b := tl b) (mk := markL s n) (k := k) (by omega) (by omega) (by rw [← len_tl]; exact hb)
  have htl : tl (nmS sh b s n k) = nmL sh (tl b) (markL s n) k := rfl
  refine ⟨⟨?_, ?_, ?_⟩, fun e => ?_⟩
  · rw [len_tl, htl]
    unfold nmL
    split
    · decide
    · exact hl.1
  · rw [len_tl, htl]
    unfold nmL
    split
    · decide
    · exact hl.2
  · show ∀ c ∈ tl (nmS sh b s n k), _
    rw [htl]
    unfold nmL
    split
    · have : ∀ c ∈ seasL, c ∈ tl letters := by decide +kernel
      exact this
    · exact fm_mem hc hmk
  · have := congrArg tl e
    rw [htl, tl_sea] at this
    exact nmL_sea this
theorem nms_nodup {sh : Nat} {b : Str} {s n : Nat} (hn : n ≤ 40) : ((List.range n).map (nmS sh b s n)).Nodup := by
  refine List.pairwise_map.mpr ((List.nodup_range (n := n)).imp_of_mem fun {k k'} hk hk' ne e => ne ?_)
  have := congrArg tl e
  exact nmL_inj (n := n) (m := if 26 < n then 2 else 1) (fun k => markL_len s n k) (by split <;> decide) (fun k k' h h' e => markL_inj hn h h' e) (List.mem_range.mp hk) (List.mem_range.mp hk') this
end Wk

/-! the law's names -/
namespace Wk
open PySem PySem.Spec PyProof.Rows L2 Evl LamX TL
theorem joinL_nil : ∀ ps : List (List Nat), joinL [] ps = ps.flatten
  | [] => rfl
  | [p] => by simp [joinL]
  | p :: q :: r => by
    show p ++ ([] ++ joinL [] (q :: r)) = _
    rw [joinL_nil (q :: r)]
    rfl
/-- one letter -/
def One (v : V) : Prop := ∃ c, c ∈ tl letters ∧ v = .str ⟨#[c]⟩
theorem join_ones {ys : List Str} (h : ∀ y ∈ ys, ∃ c, c ∈ tl letters ∧ y = ⟨#[c]⟩) : (Txt.join "" ys).length = ys.length ∧ ∀ c ∈ tl (Txt.join "" ys), c ∈ tl letters := by
  have e : tl (Txt.join "" ys) = (ys.map tl).flatten := by
    rw [join_eq, tl_join]
    exact joinL_nil _
  rw [len_tl, e]
  induction ys with
  | nil => exact ⟨rfl, fun c hc => absurd hc (by simp)⟩
  | cons y r ih =>
    obtain ⟨c, hc, rfl⟩ := h y List.mem_cons_self
    obtain ⟨h1, h2⟩ := ih (fun z hz => h z (List.mem_cons_of_mem _ hz)) (by rw [join_eq, tl_join]; exact joinL_nil _)
    rw [List.map_cons, List.flatten_cons]
    refine ⟨by rw [List.length_append, h1]; simp; omega, fun d hd => ?_⟩
    rcases List.mem_append.mp hd with z | z
    · have : d = c := by simpa using z
      rw [this]
      exact hc
    · exact h2 d z
theorem ones_list : ∀ {acc : List V}, (∀ v ∈ acc, One v) → ∃ ys : List Str, acc = ys.map V.str ∧ ∀ y ∈ ys, ∃ c, c ∈ tl letters ∧ y = ⟨#[c]⟩
  | [], _ => ⟨[], rfl, fun y hy => absurd hy (by simp)⟩
  | v :: r, h => by
    obtain ⟨c, hc, rfl⟩ := h v List.mem_cons_self
    obtain ⟨ys, rfl, hys⟩ := ones_list (acc := r) fun z hz => h z (List.mem_cons_of_mem _ hz)
    refine ⟨⟨#[c]⟩ :: ys, rfl, fun y hy => ?_⟩
    rcases List.mem_cons.mp hy with z | z
    · exact ⟨c, hc, z⟩
    · exact hys y z
theorem at_natG {α : Type} {xs : List α} {n : Nat} {v : α} (h : xs[n]? = some v) : atI xs (n : Int) = some v := by
  have hn : n < xs.length := (List.getElem?_eq_some_iff.mp h).1
  unfold atI ixN
  rw [if_pos (by omega), if_pos (by omega)]
  simpa using h
section
variable {K : PySem.W.Frag} {σ : L2.St} {H : Hp} {ta tb te : TE}
theorem ev_addS {x y z : Str} (ha : Ev ta σ H (.str x)) (hb : Ev tb σ H (.str y)) (hz : x.length + y.length ≤ 100000) (e : tl x ++ tl y = tl z) : Ev (tOp (fun x y H Q => ∃ i j, x = V.str i ∧ y = V.str j ∧ i.length + j.length ≤ sizeLine ∧ Q (.str (i ++ j)) H) ta tb) σ H (.str z) := fun H1 e1 Q q =>
  ha H1 e1 _ fun H2 e2 => hb H2 (e1.trans e2) _ fun H3 e3 => ⟨x, y, rfl, rfl, sz_of hz, by
    have : x ++ y = z := ext_tl (by rw [tl_append, e])
    rw [this]
    exact q H3 (e2.trans e3)⟩
theorem ev_slS {x z : Str} {lo hi : Option Int} {t1 t2 : TO} (h : Ev te σ H (.str x)) (h1 : EvO t1 σ H lo) (h2 : EvO t2 σ H hi) (hz : x.length ≤ 100000) (e : cutS x lo hi = z) : Ev (tSl rSlS te t1 t2) σ H (.str z) := fun H1 e1 Q q =>
  h H1 e1 _ fun H2 e2 => h1 H2 (e1.trans e2) _ fun H3 e3 => h2 H3 ((e1.trans e2).trans e3) _ fun H4 e4 => ⟨x, rfl, sz_of hz, by
    rw [e]
    exact q H4 ((e2.trans e3).trans e4)⟩
theorem ev_ixS {x : Str} {n c : Nat} {i : Int} (ha : Ev ta σ H (.str x)) (hb : Ev tb σ H (.int i)) (hi : i = (n : Int)) (hz : x.length ≤ 100000) (h : (tl x)[n]? = some c) : Ev (tOp rIxS ta tb) σ H (.str ⟨#[c]⟩) := by
  subst hi
  exact ev_op ha hb (rv_ixS hz (at_natG h))
theorem cut_to {x : Str} {k : Nat} : cutS x none (some (k : Int)) = ⟨((tl x).take k).toArray⟩ := by
  unfold cutS
  rw [HT.sIx_none, HT.sIx_nat, List.drop_zero, Nat.sub_zero]
  congr 2
  have : x.length = (tl x).length := len_tl x
  rw [this, ← List.take_take]
  rw [List.take_length]
theorem cut_from {x : Str} {k : Nat} : cutS x (some (k : Int)) none = ⟨((tl x).drop k).toArray⟩ := by
  unfold cutS
  rw [HT.sIx_none, HT.sIx_nat]
  have hl : x.length = (tl x).length := len_tl x
  congr 2
  show List.take (x.length - min k x.length) (List.drop (min k x.length) (tl x)) = List.drop k (tl x)
  by_cases h : k ≤ x.length
  · rw [Nat.min_eq_left h]
    exact List.take_of_length_le (by rw [List.length_drop]; omega)
  · rw [Nat.min_eq_right (by omega), List.drop_eq_nil_of_le (as := tl x) (i := x.length) (by omega), List.drop_eq_nil_of_le (by omega), List.take_nil]
end
/-- a comprehension over a range, its items taken from the bag -/
theorem lcB {ta : TA} {g : Addr} {σ : L2.St} {H : Hp} {j : Nat} {te : TE} {R : V → Prop} {Q : VK} {m : Nat} (hm : m ≤ 100) (hB : Bag g H) (hn : ∀ Q' : List V → Hp → Prop, (∀ (n : Nat) H1, n ≤ m → ExO g H H1 → Bag g H1 → Q' [.int (n : Int)] H1) → ta σ H Q')
    (hw : ∀ v, wipe ((wipe σ [j]).set j (some v)) [j] = wipe σ [j])
    (turn : ∀ (i : Nat) H1, ExO g H H1 → Bag g H1 → ∀ Q : VK, (∀ v H2, ExO g H1 H2 → Bag g H2 → R v → Q v H2) → te ((wipe σ [j]).set j (some (.int (i : Int)))) H1 Q)
    (k : ∀ D acc H2, H D = none → ExO g H H2 → Bag g H2 → H2 D = some (.lst acc) → (∀ v ∈ acc, R v) → acc.length ≤ m → Q (.ref D) H2) : tLc (iRng1 ta) (gName j) tYes te [j] σ H Q := by
  refine hn _ fun n H1 hz e1 b1 => ⟨(n : Int), rfl, by omega, by omega, fun D hD => ?_⟩
  rw [Int.toNat_natCast]
  have hD0 : D ≠ g := fun z => by
    obtain ⟨x, y, h⟩ := b1
    rw [z, h] at hD
    cases hD
  have nD : H D = none := by
    cases q : H D with
    | none => rfl
    | some o => rw [e1 D o hD0 q] at hD; cases hD
  refine lc_it (walk_range (lo := 0) (n := n)) (Qd := fun H2 => Q (.ref D) H2) (fun i H2 => ∃ acc, ExO g H H2 ∧ Bag g H2 ∧ H2 D = some (.lst acc) ∧ (∀ v ∈ acc, R v) ∧ acc.length = i ∧ i ≤ n) ⟨[], ?_, ?_, upd_same, fun v hv => absurd hv (by simp), rfl, Nat.zero_le _⟩ (fun _ _ _ _ => trivial) ?_ ?_
  · intro c o nc h
    rw [upd_ne (fun z => by rw [z, nD] at h; cases h)]
    exact e1 c o nc h
  · obtain ⟨x, y, h⟩ := b1
    exact ⟨x, y, by rw [upd_ne (Ne.symm hD0)]; exact h⟩
  · rintro i x H2 H3 hi ⟨acc, e2, b2, hl, hr, hlen, _⟩ ⟨rfl, y⟩
    have ex : x = V.int (i : Int) := by
      have y2 : x = V.int (0 + (i : Int)) := y
      rw [Int.zero_add] at y2
      exact y2
    subst ex
    refine ⟨hw _, ?_⟩
    show te ((wipe σ [j]).set j (some (.int (i : Int)))) H3 _
    refine turn i H3 e2 b2 _ fun v H4 e4 b4 rv => ⟨acc, e4 _ _ hD0 hl, sz_lt (by omega), acc ++ [v], ?_, ?_, upd_same, ?_, ?_, by omega⟩
    · intro c o nc h
      rw [upd_ne (fun z => by rw [z, nD] at h; cases h)]
      exact e4 c o nc (e2 c o nc h)
    · obtain ⟨x, y, h⟩ := b4
      exact ⟨x, y, by rw [upd_ne (Ne.symm hD0)]; exact h⟩
    · intro u hu
      rcases List.mem_append.mp hu with z | z
      · exact hr u z
      · rw [List.mem_singleton.mp z]
        exact rv
    · rw [List.length_append, hlen]
      rfl
  · rintro H2 ⟨acc, e2, b2, hl, hr, hlen, _⟩
    exact k D acc H2 nD e2 b2 hl hr (by omega)
end Wk

/-! the law's names: the walk -/
namespace Wk
open PySem PySem.Spec PyProof.Rows L2 Evl LamX TL
theorem q_parC {ta : TA} {i j : Nat} {tz : TS} {D : Ends} {σ : L2.St} {H : Hp} (h : ta σ H fun vs H1 => ∃ v w, vs = [v, w] ∧ tz D ((σ.set i (some v)).set j (some w)) H1) : tSeq (tPar i j ta) tz D σ H := h
theorem c_m1 {r : V → List V → Hp → VK → Prop} {to te : TE} {σ : L2.St} {H : Hp} {Q : VK} (h : to σ H fun x H1 => (∃ a, x = .str a) ∧ te σ H1 fun y H2 => r x [y] H2 Q) : tM1 r to te σ H Q := h
theorem c_two {ta tb : TE} {σ : L2.St} {H : Hp} {Q : List V → Hp → Prop} (h : ta σ H fun v H1 => tb σ H1 fun u H2 => Q [v, u] H2) : tCons ta (tCons tb tNil) σ H Q := h
theorem c_op {r : R2} {ta tb : TE} {σ : L2.St} {H : Hp} {Q : VK} (h : ta σ H fun x H1 => tb σ H1 fun y H2 => r x y H2 Q) : tOp r ta tb σ H Q := h
theorem c_call {sp : Sp} {dvs : List V} {E : XK} {t : TA} {σ : L2.St} {H : Hp} {Q : VK} (h : t σ H fun vs H1 => sp (vs ++ dvs) H1 Q E) : tCall sp dvs E t σ H Q := h
structure NamesOk (n : Nat) (ns : List Str) : Prop where
  len : ns.length = n
  nd : ns.Nodup
  nm : ∀ x ∈ ns, IsNm x ∧ x ≠ sea
def spLNames : Sp := fun vs H Q _ => ∃ (g : Addr) (n : Nat), vs = [.ref g, .int (n : Int)] ∧ Bag g H ∧ n ≤ 40 ∧ ∀ p ns H2, H p = none → ExO g H H2 → Bag g H2 → H2 p = some (.lst (ns.map V.str)) → NamesOk n ns → Q (.ref p) H2
def fmS (sh : Nat) (b : Str) (s n k : Nat) : Str := ⟨(fm sh (tl b) (markL s n) k).toArray⟩
theorem nmS_eq {sh : Nat} {b : Str} {s n k : Nat} : (if fmS sh b s n k = sea then ("seas" : Str) else fmS sh b s n k) = nmS sh b s n k := by
  have e : fmS sh b s n k = sea ↔ fm sh (tl b) (markL s n) k = seaL := by
    constructor
    · intro h
      have := congrArg tl h
      rw [tl_sea] at this
      exact this
    · intro h
      refine ext_tl ?_
      rw [tl_sea]
      exact h
  have e2 : ("seas" : Str) = ⟨seasL.toArray⟩ := ext_tl (by decide +kernel)
  unfold nmS nmL
  by_cases h : fm sh (tl b) (markL s n) k = seaL
  · rw [if_pos (e.mpr h), if_pos h, e2]
  · rw [if_neg (fun z => h (e.mp z)), if_neg h]
    rfl
section
variable {P : Program} {w : World} {K : PySem.W.Frag} {mg : Str → Option Value} {base : Heap} {A : Adr}
abbrev nLNames : List Str := ["_law_bag_here", "_law_many", "_law_letters", "_law_k", "_law_base", "_law_start", "_law_shape", "_law_found", "_law_mark", "_law_some"]
theorem scLNames : FnScope nLNames ["_law_bag_here", "_law_many"] (defScope sLNames) := ⟨rfl, rfl, rfl, by decide +kernel, rfl, by decide +kernel, by decide +kernel⟩
theorem ok_lNames (T : Txt K mg A) : FnOk P w K mg base CX0 3 A.fLNames A.dLNames ["_law_bag_here", "_law_many"] spLNames := by
  have GT : FnOk P w K mg base CX0 1 A.fLTake A.dLTake ["_law_bag_here", "_law_many"] spLTake := ok_lTake T
  have GO : FnOk P w K mg base CX0 2 A.fLOf A.dLOf nLOf spLOf := ok_lOf T
  refine T.fnLNames.ok scLNames (fun vs H Q E h => ?_) (fun cdv AA outer s H vs Q E hr h => ?_)
  · obtain ⟨g, n, rfl, _⟩ := h
    rfl
  · obtain ⟨g, n, rfl, hB, hn, k⟩ := h
    have hr1 : Room 1 _ := hr.mono (by decide)
    have hr2 : Room 2 _ := hr
    refine ⟨_, pss_cons (ps_set (i := 2) scLNames.nd rfl (.inr rfl) pe_str)
      (pss_cons (ps_set (i := 4) scLNames.nd rfl (.inl rfl) (pe_join pe_str
        (pe_lc (own := [("_law_k", 3)]) (g := gName 3) (tt := tYes) (te := tOp rIxS (tVar 2) (tCall spLTake [] E0 (tCons (tVar 0) (tCons (tC (.int 26)) tNil)))) rfl scLNames.nd
          (pi_range1 (by rfl) T.b_range (pa_cons (pe_call GO hr2 rfl T.mgLOf T.fnLOf.kp T.bdLOf .nil pass0 (pa_cons (pv 0) (pa_cons (pe_lst (pa_cons pe_int (pa_cons pe_int (pa_cons pe_int (pa_cons pe_int (pa_cons pe_int pa_nil)))))) pa_nil))) pa_nil))
          (blkOk_by (own := [("_law_k", 3)]) (N := nLNames) (sc := defScope sLNames) (by decide +kernel))
          (fun _ _ _ _ _ => pg_name (i := 3) scLNames.nd rfl (Or.inl rfl)) (fun _ _ _ _ _ => pts_nil)
          (fun _ _ _ _ _ => pe_ix ix_str (pv 2) (pe_call GT hr1 rfl T.mgLTake T.fnLTake.kp T.bdLTake .nil pass0 (pa_cons (pv 0) (pa_cons pe_int pa_nil))) (fun _ _ => rfl)))))
      (pss_cons (ps_par (i := 5) (j := 6) rfl scLNames.nd rfl rfl (by decide) rfl rfl (pa_cons (pe_call GT hr1 rfl T.mgLTake T.fnLTake.kp T.bdLTake .nil pass0 (pa_cons (pv 0) (pa_cons pe_int pa_nil))) (pa_cons (pe_call GT hr1 rfl T.mgLTake T.fnLTake.kp T.bdLTake .nil pass0 (pa_cons (pv 0) (pa_cons pe_int pa_nil))) pa_nil)) rfl)
      (pss_cons (ps_set (i := 7) scLNames.nd rfl (.inl rfl) (pe_lst pa_nil))
      (pss_cons (ps_for PassesOwn.never rfl (pi_range1 (by rfl) T.b_range (pa_cons (pv 1) pa_nil)) (pg_name (i := 3) scLNames.nd rfl (Or.inl rfl))
        (pss_cons (ps_set (i := 8) scLNames.nd rfl (.inl rfl) (pe_op op_add_str (pe_ix ix_str (pv 2) (pe_op op_mod (pe_op op_add (pv 5) (pe_op op_mul pe_int (pv 3))) pe_int) (fun _ _ => rfl)) (pe_ifExp (pt_cmpR op_gt (pv 1) pe_int (nomark _)) (pe_ix ix_str (pv 2) (pe_op op_fdiv (pv 3) pe_int) (fun _ _ => rfl)) pe_str)))
        (pss_cons (ps_set (i := 9) scLNames.nd rfl (.inl rfl) (pe_lst (pa_cons (pe_op op_add_str (pv 4) (pv 8)) (pa_cons (pe_op op_add_str (pv 8) (pv 4))
          (pa_cons (pe_op op_add_str (pv 8) (pe_slice sl_str (pv 4) po_none (po_some (pe_op op_mod (pv 3) (pe_op op_add (pe_callB call_len_str (by rfl) T.b_len PySem.boot_len (pa_cons (pv 4) pa_nil)) pe_int)))))
          (pa_cons (pe_op op_add_str (pe_op op_add_str (pe_slice sl_str (pv 4) po_none (po_some pe_int)) (pv 8)) (pe_slice sl_str (pv 4) (po_some pe_int) po_none)) pa_nil))))))
        (pss_one (ps_expr (pe_bm PySem.F.plainAttrs_list PySem.F.slot_list_append PySem.F.type_list_append mt_append (pv 7) (pa_cons
          (pe_ifExp (pt_cmpR op_eq (pe_ix ix_list (pv 9) (pv 6) (fun _ _ => rfl)) pe_str (nomark _)) pe_str (pe_ix ix_list (pv 9) (pv 6) (fun _ _ => rfl))) pa_nil)))))))
      (pss_one (ps_ret (pv 7))))))), ?_⟩
    have hlet : letters.length ≤ 100000 := by decide +kernel
    have ng : ∀ {p : Addr}, H p = none → p ≠ g := fun n z => by
      obtain ⟨x, y, hg⟩ := hB
      rw [z, hg] at n
      cases n
    refine q_asg (v := .str letters) ev_c fun H1 e1 => q_asgC (c_m1 ?_)
    refine (ev_c (σ := [some (.ref g), some (.int (n : Int)), some (.str letters), none, none, none, none, none, none, none]) (v := .str "")) H1 (Ex.refl H1) _ fun H2 e2 => ⟨⟨"", rfl⟩, ?_⟩
    have e12 := e1.trans e2
    refine lcB (g := g) (R := One) (m := 6) (by decide) (hB.ex e12) (fun Q' q' => c_one ?_) (fun _ => rfl) (fun i H3 e3 b3 Q' q' => c_op ?_) fun D acc H3 nD e3 b3 hD hacc hlen => ?_
    · refine c_call (c_two ?_)
      refine (ev_var (v := .ref g) rfl) H2 (Ex.refl H2) _ fun H3 e3 => ?_
      refine (el_lst (vs := [.int 0, .int 0, .int 1, .int 2, .int 6]) (ea_cons ev_c (ea_cons ev_c (ea_cons ev_c (ea_cons ev_c (ea_cons ev_c ea_nil))))) (by simp)) H3 (Ex.refl H3) _ fun p H4 np e4 hp => ?_
      have e34 := e12.trans (e3.trans e4)
      refine ⟨g, p, _, rfl, hB.ex e34, ng (fresh_back (e12.trans e3) np), hp, by simp, by simp, fun v H5 e5 b5 hv => ?_⟩
      have hv2 : ∃ m : Nat, v = .int (m : Int) ∧ m ≤ 6 := by
        have : v = .int 0 ∨ v = .int 1 ∨ v = .int 2 ∨ v = .int 6 := by simpa using hv
        rcases this with z | z | z | z
        · exact ⟨0, z, by decide⟩
        · exact ⟨1, z, by decide⟩
        · exact ⟨2, z, by decide⟩
        · exact ⟨6, z, by decide⟩
      obtain ⟨m, rfl, hm6⟩ := hv2
      exact q' m H5 hm6 ((ExO.of (e3.trans e4)).trans e5) b5
    · refine (ev_var (v := .str letters) rfl) H3 (Ex.refl H3) _ fun H4 e4 => eb_take (ev_var (v := .ref g) rfl) ev_c (b3.ex e4) (by decide) (by decide) fun r H5 hr5 e5 b5 => ?_
      exact ⟨letters, (r : Int), 97 + r, rfl, rfl, sz_of hlet, at_natG (let_at (by omega)), q' _ H5 ((ExO.of e4).trans e5) b5 ⟨97 + r, let_mem (by omega), rfl⟩⟩
    · obtain ⟨ys, rfl, hys⟩ := ones_list hacc
      obtain ⟨jl, jm⟩ := join_ones hys
      have hyl : ys.length ≤ 6 := by rw [List.length_map] at hlen; exact hlen
      have hsum : (ys.map (·.length)).sum = ys.length := by
        clear jl jm hyl hlen hacc hD
        induction ys with
        | nil => rfl
        | cons y r ih =>
          obtain ⟨c, _, rfl⟩ := hys y List.mem_cons_self
          rw [List.map_cons, List.sum_cons, ih fun z hz => hys z (List.mem_cons_of_mem _ hz), List.length_cons]
          show 1 + _ = _
          omega
      refine ⟨"", D, ys, rfl, rfl, .inl (sq_of hD), by rw [hsum]; show ys.length + ys.length * 0 ≤ _; omega, ?_⟩
      have hbl : (Txt.join "" ys).length ≤ 6 := by rw [jl]; exact hyl
      generalize Txt.join "" ys = b at *
      have e3' : ExO g H H3 := (ExO.of e12).trans e3
      refine q_parC (c_two (eb_take (ev_var (v := .ref g) rfl) ev_c b3 (by decide) (by decide) fun s H4 hs e4 b4 => eb_take (ev_var (v := .ref g) rfl) ev_c b4 (by decide) (by decide) fun sh H5 hsh e5 b5 => ⟨_, _, rfl, ?_⟩))
      have e5' : ExO g H H5 := (e3'.trans e4).trans e5
      refine q_asgL (el_lst ea_nil (by simp)) fun f H6 nf6 e6 hf6 => ?_
      have nf : H f = none := by
        cases q : H f with
        | none => rfl
        | some o =>
          by_cases z : f = g
          · obtain ⟨x, y, hg⟩ := b5
            rw [z, hg] at nf6
            cases nf6
          · rw [e5' f o z q] at nf6
            cases nf6
      refine q_forR1 (n := (n : Int)) (ea_cons (ev_var rfl) ea_nil) (by omega)
        (fun i σ' H' => ∃ (v3 v8 v9 : Option V), σ' = [some (.ref g), some (.int (n : Int)), some (.str letters), v3, some (.str b), some (.int (s : Int)), some (.int (sh : Int)), some (.ref f), v8, v9] ∧ ExO g H H' ∧ Bag g H' ∧ H' f = some (.lst (((List.range i).map (nmS sh b s n)).map V.str)))
        (fun H7 e7 => ⟨none, none, none, rfl, e5'.trans (ExO.of (e6.trans e7)), b5.ex (e6.trans e7), e7 _ _ hf6⟩) ?_ ?_
      · rintro i σ' H' hi ⟨v3, v8, v9, rfl, e7, b7, hf⟩
        have hin : i < n := by omega
        have em : markL s n i = [97 + (s + 5 * i) % 26] ++ (if 26 < n then [97 + i / 26] else []) := rfl
        have hml := markL_len s n i
        have hml2 : (markL s n i).length ≤ 2 := by rw [hml]; split <;> decide
        have hmlS : (⟨(markL s n i).toArray⟩ : Str).length ≤ 2 := by rw [len_tl]; exact hml2
        refine q_asg (v := .str ⟨(markL s n i).toArray⟩) (ev_addS (x := ⟨#[97 + (s + 5 * i) % 26]⟩) (y := if 26 < n then ⟨#[97 + i / 26]⟩ else "")
          (ev_ixS (n := (s + 5 * i) % 26) (ev_var (v := .str letters) rfl) (ev_mod (ev_add (ev_var rfl) (ev_mulL ev_c (ev_var rfl) (by decide))) ev_c (by decide)) (by omega) hlet (let_at (Nat.mod_lt _ (by decide))))
          (ev_if (b := decide (26 < n)) (et_test (ev_cmpI (f := fun i j => decide (j < i)) (ev_var rfl) ev_c (by rw [decide_eq_decide]; omega))) (fun h => ?_) (fun h => ?_)) ?_ ?_) fun H8 e8 => ?_
        · rw [if_pos (of_decide_eq_true h)]
          exact ev_ixS (n := i / 26) (ev_var (v := .str letters) rfl) (ev_div (ev_var rfl) ev_c (by decide)) (by omega) hlet (let_at (by omega))
        · rw [if_neg (of_decide_eq_false h)]
          exact ev_c
        · split
          · show (1 + 1 : Nat) ≤ 100000
            decide
          · show (1 + 0 : Nat) ≤ 100000
            decide
        · show _ = markL s n i
          rw [em]
          split
          · rfl
          · rfl
        · have hx : ∀ {x : Nat}, fmS x b s n i = ⟨(fm x (tl b) (markL s n) i).toArray⟩ := rfl
          have hb6 : (tl b).length ≤ 6 := by rw [← len_tl]; exact hbl
          have hcut : ∀ {lo hi : Option Int}, (cutS b lo hi).length ≤ 6 := fun {lo hi} => Nat.le_trans (cutS_length b lo hi) hbl
          refine q_asgL (xs := [.str (fmS 0 b s n i), .str (fmS 1 b s n i), .str (fmS 2 b s n i), .str (fmS 3 b s n i)]) (el_lst (ea_cons (ev_addS (ev_var rfl) (ev_var rfl) (by omega) rfl) (ea_cons (ev_addS (ev_var rfl) (ev_var rfl) (by omega) rfl)
            (ea_cons (ev_addS (y := cutS b none (some ((i % (b.length + 1) : Nat) : Int))) (ev_var rfl) (ev_slS (ev_var rfl) eo_none (eo_some (i := ((i % (b.length + 1) : Nat) : Int)) ?_) (by omega) rfl) (by have := hcut (lo := none) (hi := some ((i % (b.length + 1) : Nat) : Int)); omega) ?_)
            (ea_cons (ev_addS (x := ⟨((tl b).take 1 ++ markL s n i).toArray⟩) (y := cutS b (some ((1 : Nat) : Int)) none) (ev_addS (x := cutS b none (some ((1 : Nat) : Int))) (ev_slS (ev_var rfl) eo_none (eo_some ev_c) (by omega) rfl) (ev_var rfl) (by have := hcut (lo := none) (hi := some ((1 : Nat) : Int)); omega) ?_) (ev_slS (ev_var rfl) (eo_some ev_c) eo_none (by omega) rfl) ?_ ?_) ea_nil)))) (by simp)) fun l H9 nl e9 hl => ?_
          · have hE : Ev (tCB (fun xs H Q => ∃ z : Str, xs = [.str z] ∧ z.length ≤ sizeLine ∧ Q (.int z.length) H) (tCons (tVar 4) tNil)) [some (.ref g), some (.int (n : Int)), some (.str letters), some (.int (i : Int)), some (.str b), some (.int (s : Int)), some (.int (sh : Int)), some (.ref f), some (.str ⟨(markL s n i).toArray⟩), v9] H8 (.int b.length) := ev_lenStr (ea_cons (ev_var rfl) ea_nil) (by omega)
            have := ev_mod (ta := tVar 3) (ev_var (σ := [some (.ref g), some (.int (n : Int)), some (.str letters), some (.int (i : Int)), some (.str b), some (.int (s : Int)), some (.int (sh : Int)), some (.ref f), some (.str ⟨(markL s n i).toArray⟩), v9]) (H := H8) (v := .int (i : Int)) rfl) (ev_add hE (ev_c (v := .int 1))) (by omega)
            rw [show ((i % (b.length + 1) : Nat) : Int) = (i : Int) % ((b.length : Int) + 1) by simp]
            exact this
          · rw [cut_to]
            show markL s n i ++ (tl b).take (i % (b.length + 1)) = markL s n i ++ (tl b).take (i % ((tl b).length + 1))
            rw [← len_tl]
          · rw [cut_to]
          · have h1 := hcut (lo := some ((1 : Nat) : Int)) (hi := none)
            rw [len_tl]
            show ((tl b).take 1 ++ markL s n i).length + _ ≤ _
            rw [List.length_append, List.length_take]
            omega
          · rw [cut_from]
            rfl
          · have hsh4 : sh < 4 := by omega
            have hat : ([.str (fmS 0 b s n i), .str (fmS 1 b s n i), .str (fmS 2 b s n i), .str (fmS 3 b s n i)] : List V)[sh]? = some (.str (fmS sh b s n i)) := by
              have : sh = 0 ∨ sh = 1 ∨ sh = 2 ∨ sh = 3 := by omega
              rcases this with z | z | z | z <;> subst z <;> rfl
            have hix : ∀ {H10 : Hp}, Ex H9 H10 → Ev (tOp (rIxL K) (tVar 9) (tVar 6)) [some (.ref g), some (.int (n : Int)), some (.str letters), some (.int (i : Int)), some (.str b), some (.int (s : Int)), some (.int (sh : Int)), some (.ref f), some (.str ⟨(markL s n i).toArray⟩), some (.ref l)] H10 (.str (fmS sh b s n i)) := fun e => ev_ixL (ev_var rfl) (ev_var rfl) (sq_of (e _ _ hl)) (at_nat hat)
            have hf9 : H9 f = some (.lst (((List.range i).map (nmS sh b s n)).map V.str)) := (e8.trans e9) _ _ hf
            refine s_app (v := .str (nmS sh b s n i)) hf9 (ev_var rfl) ?_ (by simp; omega) fun H10 e10 => ⟨_, _, _, rfl, ?_, ?_, ?_⟩
            · rw [← nmS_eq]
              refine ev_if (b := decide (fmS sh b s n i = sea)) (et_test (ev_eqS (hix (Ex.refl H9)) ev_c rfl)) (fun h => ?_) (fun h => ?_)
              · rw [if_pos (of_decide_eq_true h)]
                exact ev_c
              · rw [if_neg (of_decide_eq_false h)]
                exact hix (Ex.refl H9)
            · intro c o nc h
              rw [upd_ne (fun z => by rw [z, nf] at h; cases h)]
              exact ((e8.trans e9).trans e10) _ _ (e7 c o nc h)
            · obtain ⟨x, y, hg⟩ := b7
              exact ⟨x, y, by rw [upd_ne (Ne.symm (ng nf))]; exact ((e8.trans e9).trans e10) _ _ hg⟩
            · rw [upd_same, List.range_succ, List.map_append, List.map_append]
              rfl
      · rintro σ' H' ⟨v3, v8, v9, rfl, e7, b7, hf⟩
        rw [Int.toNat_natCast] at hf
        refine s_ret (ev_var (v := .ref f) rfl) fun H8 e8 => k f _ H8 nf (e7.trans (ExO.of e8)) (b7.ex e8) (e8 _ _ hf) ⟨by simp, nms_nodup hn, fun x hx => ?_⟩
        obtain ⟨i, hi, rfl⟩ := List.mem_map.mp hx
        exact nmS_ok hbl jm (List.mem_range.mp hi) hn
end
end Wk

/-! the law's river -/
namespace Wk
open PySem PySem.Spec PyProof.Rows L2 Evl LamX TL
section
variable {sp : Sp} {E : XK} {ta tb tc : TE} {σ : L2.St} {H : Hp} {Q : VK} {x y z : V}
theorem c_call1 (ha : Ev ta σ H x) (h : ∀ H1, Ex H H1 → sp [x] H1 Q E) : tCall sp [] E (tCons ta tNil) σ H Q := ha H (Ex.refl H) _ fun H1 e1 => h H1 e1
theorem c_call2 (ha : Ev ta σ H x) (hb : Ev tb σ H y) (h : ∀ H1, Ex H H1 → sp [x, y] H1 Q E) : tCall sp [] E (tCons ta (tCons tb tNil)) σ H Q := ha H (Ex.refl H) _ fun H1 e1 => hb H1 e1 _ fun H2 e2 => h H2 (e1.trans e2)
theorem c_call3 (ha : Ev ta σ H x) (hb : Ev tb σ H y) (hc : Ev tc σ H z) (h : ∀ H1, Ex H H1 → sp [x, y, z] H1 Q E) : tCall sp [] E (tCons ta (tCons tb (tCons tc tNil))) σ H Q := ha H (Ex.refl H) _ fun H1 e1 => hb H1 e1 _ fun H2 e2 => hc H2 (e1.trans e2) _ fun H3 e3 => h H3 ((e1.trans e2).trans e3)
theorem c_tup {t : TA} (h : t σ H fun xs H1 => xs.length ≤ sizeLine ∧ ∀ p, H1 p = none → Q (.ref p) (upd H1 p (.tup xs))) : tTup t σ H Q := h
theorem c_if {t : TT} {b : Bool} (h : EvT t σ H b) (h1 : b = true → ∀ H1, Ex H H1 → ta σ H1 Q) (h2 : b = false → ∀ H1, Ex H H1 → tb σ H1 Q) : tIf t ta tb σ H Q := h H (Ex.refl H) _ fun H1 e1 => by
  cases b with
  | true => exact h1 rfl H1 e1
  | false => exact h2 rfl H1 e1
end
theorem Bag.ne {g p : Addr} {H : Hp} (b : Bag g H) (n : H p = none) : p ≠ g := fun z => by
  obtain ⟨x, y, hg⟩ := b
  rw [z, hg] at n
  cases n
theorem Bag.up {g p : Addr} {H : Hp} {o : HO} (b : Bag g H) (n : p ≠ g) : Bag g (upd H p o) := by
  obtain ⟨x, y, hg⟩ := b
  exact ⟨x, y, by rw [upd_ne (Ne.symm n)]; exact hg⟩
theorem ExO.back {g p : Addr} {H H1 : Hp} (e : ExO g H H1) (b : Bag g H1) (n : H1 p = none) : H p = none := by
  cases q : H p with
  | none => rfl
  | some o => rw [e p o (b.ne n) q] at n; cases n
theorem ExO.mut {g p : Addr} {H H1 : Hp} {o : HO} (e : ExO g H H1) (n : H p = none) : ExO g H (upd H1 p o) := fun c u nc h => by
  rw [upd_ne (fun z => by rw [z, n] at h; cases h)]
  exact e c u nc h
theorem RowsAt.exO {g : Addr} {H H' : Hp} {a : Addr} {rows : List (Str × Str)} (e : ExO g H H') (b : Bag g H) (ha : a ≠ g) (h : RowsAt H a rows) : RowsAt H' a rows := by
  obtain ⟨ps, h1, h2⟩ := h
  obtain ⟨x, y, hg⟩ := b
  exact ⟨ps, e _ _ ha h1, Paired.mapP h2 fun p r q => e _ _ (fun z => by rw [z, hg] at q; cases q) q⟩
theorem RghAt.exO {g : Addr} {H H' : Hp} {a : Addr} {rts : List (Str × Str × Str)} (e : ExO g H H') (b : Bag g H) (ha : a ≠ g) (h : RghAt H a rts) : RghAt H' a rts := by
  obtain ⟨ps, h1, h2⟩ := h
  obtain ⟨x, y, hg⟩ := b
  exact ⟨ps, e _ _ ha h1, Paired.mapP h2 fun p r q => e _ _ (fun z => by rw [z, hg] at q; cases q) q⟩
/-! ### plain -/
theorem idx_at {ns : List Str} (nd : ns.Nodup) {k : Nat} {x : Str} (h : ns[k]? = some x) : ns.idxOf x = k := by
  obtain ⟨hk, e⟩ := List.getElem?_eq_some_iff.mp h
  have hx : x ∈ ns := List.mem_of_getElem? h
  have h1 : ns.idxOf x < ns.length := List.idxOf_lt_length_of_mem hx
  have h2 : ns[ns.idxOf x] = x := List.getElem_idxOf h1
  have h3 : ns[ns.idxOf x]? = ns[k]? := by rw [h, List.getElem?_eq_getElem h1, h2]
  exact (List.getElem?_inj h1 nd).mp h3
/-- the rows that are made for the first i names -/
structure Bld (ns : List Str) (rows : List (Str × Str)) (i : Nat) : Prop where
  fst : rows.map (·.1) = ns.take i
  snd : ∀ r ∈ rows, r.1 ∈ ns ∧ (r.2 = sea ∨ (r.2 ∈ ns ∧ ns.idxOf r.2 < ns.idxOf r.1))
theorem Bld.snoc {ns : List Str} {rows : List (Str × Str)} {i : Nat} (h : Bld ns rows i) (nd : ns.Nodup) {x y : Str} (hx : ns[i]? = some x) (hy : y = sea ∨ ∃ j, j < i ∧ ns[j]? = some y) : Bld ns (rows ++ [(x, y)]) (i + 1) := by
  refine ⟨by rw [List.map_append, h.fst, take_snoc hx]; rfl, fun r hr => ?_⟩
  rcases List.mem_append.mp hr with z | z
  · exact h.snd r z
  · rw [List.mem_singleton.mp z]
    refine ⟨List.mem_of_getElem? hx, hy.imp_right fun ⟨j, hj, e⟩ => ⟨List.mem_of_getElem? e, ?_⟩⟩
    rw [idx_at nd e, idx_at nd hx]
    exact hj
theorem sea_nm : IsNm sea := ⟨by decide, by decide, by decide +kernel⟩
theorem Bld.ok {n : Nat} {ns : List Str} {rows : List (Str × Str)} (h : Bld ns rows n) (N : NamesOk n ns) (h1 : 1 ≤ n) (h40 : n ≤ 40) : RiverOk rows ∧ rows.length = n := by
  have hf : rows.map (·.1) = ns := by rw [h.fst, ← N.len, List.take_length]
  have hl : rows.length = n := by
    have := congrArg List.length hf
    rw [List.length_map] at this
    rw [this, N.len]
  refine ⟨⟨⟨fun z => ?_, by rw [hf]; exact N.nd, fun r hr => (N.nm r.1 (h.snd r hr).1).2, fun x => ns.idxOf x, fun r hr => ⟨?_, ?_⟩⟩, by omega, fun r hr => ⟨(N.nm r.1 (h.snd r hr).1).1, ?_⟩⟩, hl⟩
  · rw [z] at hl
    simp at hl
    omega
  · show ns.idxOf r.1 < rows.length
    rw [hl, ← N.len]
    exact List.idxOf_lt_length_of_mem (h.snd r hr).1
  · rcases (h.snd r hr).2 with z | ⟨z1, z2⟩
    · exact .inl z
    · refine .inr ⟨?_, z2⟩
      rw [← hf] at z1
      obtain ⟨q, hq, e⟩ := List.mem_map.mp z1
      exact ⟨q, hq, e⟩
  · rcases (h.snd r hr).2 with z | ⟨z1, _⟩
    · rw [z]
      exact sea_nm
    · exact (N.nm _ z1).1
theorem RiverOk.perm {rows rows' : List (Str × Str)} (h : RiverOk rows) (p : rows'.Perm rows) : RiverOk rows' := by
  have G := h.good
  refine ⟨⟨fun z => G.ne (by rw [z] at p; exact p.symm.eq_nil), (p.map _).nodup_iff.mpr G.nd, fun r hr => G.nosea r (p.mem_iff.mp hr), ?_⟩, by rw [p.length_eq]; exact h.most, fun r hr => h.nm r (p.mem_iff.mp hr)⟩
  obtain ⟨rk, hrk⟩ := G.rank
  refine ⟨rk, fun r hr => ?_⟩
  obtain ⟨h1, h2⟩ := hrk r (p.mem_iff.mp hr)
  refine ⟨by rw [p.length_eq]; exact h1, h2.imp_right fun ⟨⟨q, hq, e⟩, z⟩ => ⟨⟨q, p.mem_iff.mpr hq, e⟩, z⟩⟩
/-- a permuted list of refs -/
theorem refs_perm {ys : List V} {ps : List Addr} (h : ys.Perm (ps.map V.ref)) : ∃ qs : List Addr, ys = qs.map V.ref ∧ qs.Perm ps := by
  have hy : ∀ y ∈ ys, ∃ p, y = V.ref p := fun y hm => by
    obtain ⟨p, _, e⟩ := List.mem_map.mp (h.mem_iff.mp hm)
    exact ⟨p, e.symm⟩
  let f : V → Addr := fun v => match v with | .ref p => p | _ => 0
  have e1 : (ys.map f).map V.ref = ys := by
    clear h
    induction ys with
    | nil => rfl
    | cons y r ih =>
      obtain ⟨p, rfl⟩ := hy y List.mem_cons_self
      rw [List.map_cons, List.map_cons, ih fun z hz => hy z (List.mem_cons_of_mem _ hz)]
  refine ⟨ys.map f, e1.symm, ?_⟩
  have := h.map f
  rw [List.map_map] at this
  rw [show ps.map (f ∘ V.ref) = ps from List.map_id'' (fun _ => rfl) ps] at this
  exact this
theorem paired_perm {α β : Type} {F : α → β → Prop} {l l' : List α} {m : List β} (p : l'.Perm l) (h : Paired F l m) : ∃ m', Paired F l' m' ∧ m'.Perm m := by
  induction p generalizing m with
  | nil => cases h; exact ⟨[], .nil, .refl _⟩
  | cons a p ih =>
    cases h with
    | cons h1 h2 =>
      obtain ⟨m', h3, h4⟩ := ih h2
      exact ⟨_ :: m', .cons h1 h3, h4.cons _⟩
  | swap a b l =>
    cases h with
    | cons h1 h2 =>
      cases h2 with
      | cons h3 h4 => exact ⟨_, .cons h3 (.cons h1 h4), .swap _ _ _⟩
  | trans p1 p2 ih1 ih2 =>
    obtain ⟨m1, h1, h2⟩ := ih2 h
    obtain ⟨m2, h3, h4⟩ := ih1 h1
    exact ⟨m2, h3, h4.trans h2⟩
end Wk

/-! the law's river: the walk -/
namespace Wk
open PySem PySem.Spec PyProof.Rows L2 Evl LamX TL
def spLRiver : Sp := fun vs H Q _ => ∃ (g : Addr) (n : Nat), vs = [.ref g, .int (n : Int)] ∧ Bag g H ∧ 1 ≤ n ∧ n ≤ 40 ∧ ∀ p rows H2, H p = none → ExO g H H2 → Bag g H2 → RowsAt H2 p rows → RiverOk rows → Q (.ref p) H2
section
variable {P : Program} {w : World} {K : PySem.W.Frag} {mg : Str → Option Value} {base : Heap} {A : Adr}
abbrev nLRiver : List Str := ["_law_bag_here", "_law_many", "_law_names_here", "_law_rows", "_law_k", "_law_way_here"]
theorem scLRiver : FnScope nLRiver ["_law_bag_here", "_law_many"] (defScope sLRiver) := ⟨rfl, rfl, rfl, by decide +kernel, rfl, by decide +kernel, by decide +kernel⟩
theorem ok_lRiver (T : Txt K mg A) : FnOk P w K mg base CX0 4 A.fLRiver A.dLRiver ["_law_bag_here", "_law_many"] spLRiver := by
  have GT : FnOk P w K mg base CX0 1 A.fLTake A.dLTake ["_law_bag_here", "_law_many"] spLTake := ok_lTake T
  have GN : FnOk P w K mg base CX0 3 A.fLNames A.dLNames ["_law_bag_here", "_law_many"] spLNames := ok_lNames T
  have GM : FnOk P w K mg base CX0 2 A.fLMixed A.dLMixed ["_law_bag_here", "_law_some"] spLMixed := ok_lMixed T
  refine T.fnLRiver.ok scLRiver (fun vs H Q E h => ?_) (fun cdv AA outer s H vs Q E hr h => ?_)
  · obtain ⟨g, n, rfl, _⟩ := h
    rfl
  · obtain ⟨g, n, rfl, hB, hn1, hn, k⟩ := h
    have hr1 : Room 1 _ := hr.mono (by decide)
    have hr2 : Room 2 _ := hr.mono (by decide)
    refine ⟨_, pss_cons (ps_par (i := 2) (j := 3) rfl scLRiver.nd rfl rfl (by decide) rfl rfl (pa_cons (pe_call GN hr rfl T.mgLNames T.fnLNames.kp T.bdLNames .nil pass0 (pa_cons (pv 0) (pa_cons (pv 1) pa_nil))) (pa_cons (pe_lst pa_nil) pa_nil)) rfl)
      (pss_cons (ps_for PassesOwn.never rfl (pi_range1 (by rfl) T.b_range (pa_cons (pv 1) pa_nil)) (pg_name (i := 4) scLRiver.nd rfl (Or.inl rfl))
        (pss_cons (ps_set (i := 5) scLRiver.nd rfl (.inl rfl) (pe_call GT hr1 rfl T.mgLTake T.fnLTake.kp T.bdLTake .nil pass0 (pa_cons (pv 0) (pa_cons pe_int pa_nil))))
        (pss_one (ps_if (PW.pt (pw_or (pt_cmpR op_eq (pv 4) pe_int (nomark _)) (pw_or1 (pt_cmpR op_eq (pv 5) pe_int (nomark _)))))
          (pss_one (ps_expr (pe_bm PySem.F.plainAttrs_list PySem.F.slot_list_append PySem.F.type_list_append mt_append (pv 3) (pa_cons (pe_tup (pa_cons (pe_ix ix_list (pv 2) (pv 4) (fun _ _ => rfl)) (pa_cons pe_str pa_nil))) pa_nil))))
          (pss_one (ps_expr (pe_bm PySem.F.plainAttrs_list PySem.F.slot_list_append PySem.F.type_list_append mt_append (pv 3) (pa_cons (pe_tup (pa_cons (pe_ix ix_list (pv 2) (pv 4) (fun _ _ => rfl)) (pa_cons
            (pe_ifExp (pt_cmpR op_lt (pv 5) pe_int (nomark _)) (pe_ix ix_list (pv 2) (pe_op op_sub (pv 4) pe_int) (fun _ _ => rfl)) (pe_ix ix_list (pv 2) (pe_call GT hr1 rfl T.mgLTake T.fnLTake.kp T.bdLTake .nil pass0 (pa_cons (pv 0) (pa_cons (pv 4) pa_nil))) (fun _ _ => rfl))) pa_nil))) pa_nil))))))))
      (pss_one (ps_ret (pe_call GM hr2 rfl T.mgLMixed T.fnLMixed.kp T.bdLMixed .nil pass0 (pa_cons (pv 0) (pa_cons (pv 3) pa_nil)))))), ?_⟩
    refine q_parC (c_two (c_call2 (ev_var (v := .ref g) rfl) (ev_var (v := .int (n : Int)) rfl) fun H1 e1 => ⟨g, n, rfl, hB.ex e1, hn, fun q ns H2 nq e2 b2 hq N => ?_⟩))
    refine (el_lst ea_nil (by simp)) H2 (Ex.refl H2) _ fun l H3 nl e3 hl => ⟨_, _, rfl, ?_⟩
    have E3 : ExO g H H3 := (ExO.of e1).trans (e2.trans (ExO.of e3))
    have b3 := b2.ex e3
    have nl0 : H l = none := ((ExO.of e1).trans e2).back b2 nl
    have nq0 : H q = none := (ExO.of e1).back (hB.ex e1) nq
    have hlq : l ≠ q := fun z => by
      rw [z, hq] at nl
      cases nl
    have hq3 := e3 _ _ hq
    have hqg : q ≠ g := hB.ne nq0
    have hlg : l ≠ g := hB.ne nl0
    refine q_forR1 (n := (n : Int)) (ea_cons (ev_var rfl) ea_nil) (by omega)
      (fun i σ' H' => ∃ (v4 v5 : Option V) (rows : List (Str × Str)), σ' = [some (.ref g), some (.int (n : Int)), some (.ref q), some (.ref l), v4, v5] ∧ ExO g H H' ∧ Bag g H' ∧ H' q = some (.lst (ns.map V.str)) ∧ RowsAt H' l rows ∧ Bld ns rows i)
      (fun H4 e4 => ⟨none, none, [], rfl, E3.trans (ExO.of e4), b3.ex e4, e4 _ _ hq3, ⟨[], e4 _ _ hl, .nil⟩, ⟨by simp, fun r hr => absurd hr (by simp)⟩⟩) ?_ ?_
    · rintro i σ' H' hi ⟨v4, v5, rows, rfl, e4, b4, hq4, hR, hb⟩
      have hin : i < ns.length := by rw [N.len]; omega
      obtain ⟨x, hx⟩ : ∃ x, ns[i]? = some x := ⟨_, List.getElem?_eq_getElem hin⟩
      refine q_asgC (eb_take (ev_var (v := .ref g) rfl) ev_c b4 (by decide) (by decide) fun r H5 hr5 e5 b5 => ?_)
      have hq5 := e5 _ _ hqg hq4
      have hR5 := hR.exO e5 b4 hlg
      have E5 := e4.trans e5
      -- a row is added
      have fin : ∀ {y : Str} {H6 H7 : Hp} {p : Addr}, (y = sea ∨ ∃ j, j < i ∧ ns[j]? = some y) → ExO g H5 H6 → Bag g H6 → H6 p = none → H7 = upd H6 p (.tup [.str x, .str y]) → rAppend (.ref l) [.ref p] H7 fun _ H8 => ∃ (v4 v5 : Option V) (rows : List (Str × Str)), [some (.ref g), some (.int (n : Int)), some (.ref q), some (.ref l), some (.int (i : Int)), some (.int (r : Int))] = [some (.ref g), some (.int (n : Int)), some (.ref q), some (.ref l), v4, v5] ∧ ExO g H H8 ∧ Bag g H8 ∧ H8 q = some (.lst (ns.map V.str)) ∧ RowsAt H8 l rows ∧ Bld ns rows (i + 1) := by
        intro y H6 H7 p hy e6 b6 np e7
        subst e7
        obtain ⟨ps, h1, h2⟩ := hR5.exO e6 b5 hlg
        have hpl : p ≠ l := fun z => by rw [z, h1] at np; cases np
        have hpq : p ≠ q := fun z => by rw [z, e6 _ _ hqg hq5] at np; cases np
        have hlen : ps.length ≤ 40 := by
          rw [paired_len h2]
          have := congrArg List.length hb.fst
          rw [List.length_map, List.length_take] at this
          omega
        have np0 : H p = none := (E5.trans e6).back b6 np
        refine ⟨l, ps.map V.ref, .ref p, rfl, rfl, by rw [upd_ne (Ne.symm hpl)]; exact h1, sz_lt (by rw [List.length_map]; omega), _, _, rows ++ [(x, y)], rfl, ?_, ?_, ?_, ⟨ps ++ [p], by rw [upd_same, List.map_append]; rfl, ?_⟩, hb.snoc N.nd hx hy⟩
        · exact ((E5.trans e6).mut np0).mut nl0
        · exact (b6.up (b6.ne np)).up hlg
        · rw [upd_ne (Ne.symm hlq), upd_ne (Ne.symm hpq)]
          exact e6 _ _ hqg hq5
        · refine paired_snoc (Paired.mapP h2 fun c rr z => ?_) ?_
          · have hcl : c ≠ l := fun e => by rw [e, h1] at z; cases z
            have hcp : c ≠ p := fun e => by rw [e, np] at z; cases z
            rw [upd_ne hcl, upd_ne hcp]
            exact z
          · rw [upd_ne hpl, upd_same]
      have hc : ∀ {b : Bool}, (decide ((i : Int) = 0) || decide ((r : Int) = 0)) = b → EvT (tOr (tTest (tOp rEq (tVar 4) (tC (.int 0)))) (tTest (tOp rEq (tVar 5) (tC (.int 0))))) [some (.ref g), some (.int (n : Int)), some (.ref q), some (.ref l), some (.int (i : Int)), some (.int (r : Int))] H5 b := fun {b} e =>
        et_is (et_or (et_test (ev_eqI (ev_var rfl) ev_c rfl)) fun _ => et_test (ev_eqI (ev_var rfl) ev_c rfl)) e
      have hix : ∀ {H6 : Hp}, ExO g H5 H6 → Ev (tOp (rIxL K) (tVar 2) (tVar 4)) [some (.ref g), some (.int (n : Int)), some (.ref q), some (.ref l), some (.int (i : Int)), some (.int (r : Int))] H6 (.str x) := fun e => ev_ixL (ev_var rfl) (ev_var rfl) (sq_of (e _ _ hqg hq5)) (at_nat (by rw [List.getElem?_map, hx]; rfl))
      have hlv : ∀ {H6 : Hp}, ExO g H5 H6 → tyV K "list" (.ref l) H6 := fun e => by
        obtain ⟨ps, h1, _⟩ := hR5.exO e b5 hlg
        exact .inl ⟨rfl, _, sq_of h1⟩
      by_cases h0 : (decide ((i : Int) = 0) || decide ((r : Int) = 0)) = true
      · refine s_if (b := true) (hc h0) (fun _ H6 e6 => ?_) (fun h => nomatch h)
        refine s_dropC (c_bm ?_)
        refine (ev_var (v := .ref l) rfl) H6 (Ex.refl H6) _ fun H7 e7 => ⟨hlv (ExO.of (e6.trans e7)), c_one (c_tup (c_two ?_))⟩
        refine (hix (ExO.of (e6.trans e7))) H7 (Ex.refl H7) _ fun H8 e8 => (ev_c (σ := [some (.ref g), some (.int (n : Int)), some (.ref q), some (.ref l), some (.int (i : Int)), some (.int (r : Int))]) (v := .str sea)) H8 (Ex.refl H8) _ fun H9 e9 => ⟨sz_of (by simp), fun p np => ?_⟩
        have e69 := (e6.trans e7).trans (e8.trans e9)
        exact fin (.inl rfl) (ExO.of e69) (b5.ex e69) np rfl
      · have hf : (decide ((i : Int) = 0) || decide ((r : Int) = 0)) = false := by simpa using h0
        have hi0 : 1 ≤ i := by
          simp at hf
          omega
        refine s_if (b := false) (hc hf) (fun h => nomatch h) (fun _ H6 e6 => ?_)
        refine s_dropC (c_bm ?_)
        refine (ev_var (v := .ref l) rfl) H6 (Ex.refl H6) _ fun H7 e7 => ⟨hlv (ExO.of (e6.trans e7)), c_one (c_tup (c_two ?_))⟩
        have e67 := e6.trans e7
        refine (hix (ExO.of e67)) H7 (Ex.refl H7) _ fun H8 e8 => ?_
        have e68 := e67.trans e8
        refine c_if (b := decide ((r : Int) < 4)) (et_test (ev_cmpI (f := fun i j => decide (i < j)) (ev_var rfl) ev_c rfl)) (fun h H9 e9 => ?_) (fun h H9 e9 => ?_)
        · have hj : i - 1 < ns.length := by omega
          obtain ⟨y, hy⟩ : ∃ y, ns[i - 1]? = some y := ⟨_, List.getElem?_eq_getElem hj⟩
          refine (ev_ixL (v := .str y) (i := ((i - 1 : Nat) : Int)) (ev_var rfl) ?_ (sq_of (ExO.of (e68.trans e9) _ _ hqg hq5)) (at_nat (by rw [List.getElem?_map, hy]; rfl))) H9 (Ex.refl H9) _ fun H10 e10 => ⟨sz_of (by simp), fun p np => ?_⟩
          · have := ev_op (ta := tVar 4) (tb := tC (.int 1)) (ev_var (σ := [some (.ref g), some (.int (n : Int)), some (.ref q), some (.ref l), some (.int (i : Int)), some (.int (r : Int))]) (H := H9) (v := .int (i : Int)) rfl) (ev_c (v := .int 1)) (rv_I0 (g := fun i j => V.int (i - j)))
            rw [show ((i - 1 : Nat) : Int) = (i : Int) - 1 by omega]
            exact this
          · have e610 := (e68.trans e9).trans e10
            exact fin (.inr ⟨i - 1, by omega, hy⟩) (ExO.of e610) (b5.ex e610) np rfl
        · refine c_op ?_
          refine (ev_var (v := .ref q) rfl) H9 (Ex.refl H9) _ fun H10 e10 => ?_
          have e610 := (e68.trans e9).trans e10
          refine eb_take (ev_var (v := .ref g) rfl) (ev_var (v := .int (i : Int)) rfl) (b5.ex e610) (by omega) (by omega) fun j H11 hj e11 b11 => ?_
          have hj2 : j < ns.length := by omega
          obtain ⟨y, hy⟩ : ∃ y, ns[j]? = some y := ⟨_, List.getElem?_eq_getElem hj2⟩
          have E11 : ExO g H5 H11 := (ExO.of e610).trans e11
          exact ⟨q, _, (j : Int), .str y, rfl, rfl, sq_of (E11 _ _ hqg hq5), at_nat (by rw [List.getElem?_map, hy]; rfl), sz_of (by simp), fun p np => fin (.inr ⟨j, by omega, hy⟩) E11 b11 np rfl⟩
    · rintro σ' H' ⟨v4, v5, rows, rfl, e4, b4, hq4, hR, hb⟩
      rw [Int.toNat_natCast] at hb
      obtain ⟨hok, hlen⟩ := hb.ok N hn1 hn
      obtain ⟨ps, h1, h2⟩ := hR
      have hpl : ps.length = n := by rw [paired_len h2, hlen]
      show tCall spLMixed [] E0 (tCons (tVar 0) (tCons (tVar 3) tNil)) _ H' Q
      refine c_call2 (ev_var (v := .ref g) rfl) (ev_var (v := .ref l) rfl) fun H5 e5 => ⟨g, l, ps.map V.ref, rfl, b4.ex e5, hlg, e5 _ _ h1, by rw [List.length_map]; omega, fun p ys H6 np e6 b6 hp hys => ?_⟩
      obtain ⟨qs, rfl, hqs⟩ := refs_perm hys
      obtain ⟨rows', h3, h4⟩ := paired_perm hqs h2
      have E5 : ExO g H H5 := e4.trans (ExO.of e5)
      refine k p rows' H6 (E5.back (b4.ex e5) np) (E5.trans e6) b6 ⟨qs, hp, Paired.mapP h3 fun c rr z => ?_⟩ (hok.perm h4)
      refine e6 c _ (fun e => ?_) (e5 _ _ z)
      obtain ⟨a, b, hg⟩ := b4
      rw [e, hg] at z
      cases z
end
end Wk

/-! the law's course -/
namespace Wk
open PySem PySem.Spec PyProof.Rows L2 Evl LamX TL
theorem mergeK_app (kvs : List (Key × V)) : ∀ (ps : List (Key × V)), ((kvs ++ ps).map (·.1)).Nodup → mergeK kvs ps = kvs ++ ps := by
  intro ps
  induction ps generalizing kvs with
  | nil => intro _; simp [mergeK]
  | cons p r ih =>
    intro h
    have h1 : (((kvs ++ [p]) ++ r).map (·.1)).Nodup := by rw [List.append_assoc]; exact h
    have hp : p.1 ∉ kvs.map (·.1) := by
      rw [List.map_append, List.nodup_append] at h
      intro z
      exact h.2.2 _ z _ (by rw [List.map_cons]; exact List.mem_cons_self) rfl
    have := ih (kvs ++ [p]) h1
    rw [List.append_assoc] at this
    show mergeK (putK kvs p.1 p.2) r = kvs ++ ([p] ++ r)
    rw [← this, putK_end hp]
theorem mergeK_nil {ps : List (Key × V)} (h : (ps.map (·.1)).Nodup) : mergeK [] ps = ps := mergeK_app [] ps h
/-- dict(rows) -/
theorem low_nd {rows : List (Str × Str)} (G : GoodRiver sea rows) : ((lowKV rows).map (·.1)).Nodup := by
  rw [lowKV_keys]
  exact List.pairwise_map.mpr (G.nd.imp fun h e => h (Sum.inr.inj e))
theorem cd_rows {K : PySem.W.Frag} {te : TE} {σ : L2.St} {H : Hp} {a : Addr} {rows : List (Str × Str)} {Q : VK} (h : Ev te σ H (.ref a)) (hR : RowsAt H a rows) (G : GoodRiver sea rows) (k : ∀ d H1, H d = none → Ex H H1 → H1 d = some (.dK (lowKV rows)) → Q (.ref d) H1) :
    tCB (fun xs H Q => ∃ (a : Addr) (ps : List Addr) (kvs : List (Key × V)), xs = [V.ref a] ∧ SqL K H a (ps.map V.ref) ∧ Paired (fun p kv => SqT K H p [kV kv.1, kv.2]) ps kvs ∧ ∀ p, H p = none → Q (.ref p) (upd H p (.dK (mergeK [] kvs)))) (tCons te tNil) σ H Q :=
  h H (Ex.refl H) _ fun H1 e1 => by
    obtain ⟨ps, h1, h2⟩ := hR.ex e1
    refine ⟨a, ps, lowKV rows, rfl, sq_of h1, ?_, fun d nd => ?_⟩
    · unfold lowKV
      refine paired_mk (by rw [List.length_map]; exact paired_len h2) fun i p kv hp hkv => ?_
      obtain ⟨r, hr, z⟩ := paired_get h2 hp
      rw [List.getElem?_map, hr] at hkv
      cases hkv
      exact st_of z
    · rw [mergeK_nil (low_nd G)]
      exact k d _ (fresh_back e1 nd) (e1.trans (Ex.new nd)) upd_same
def spLCourse : Sp := fun vs H Q _ => ∃ (a : Addr) (x : Str) (rows : List (Str × Str)), vs = [.ref a, .str x] ∧ RowsAt H a rows ∧ RiverOk rows ∧ x ∈ wns rows ∧ ∀ p H2, H p = none → Ex H H2 → H2 p = some (.lst ((course sea rows x).map V.str)) → Q (.ref p) H2
section
variable {P : Program} {w : World} {K : PySem.W.Frag} {mg : Str → Option Value} {base : Heap} {A : Adr}
abbrev nLCourse : List Str := ["_law_rows", "_law_weir", "_law_below", "_law_found", "_law_k"]
theorem scLCourse : FnScope nLCourse ["_law_rows", "_law_weir"] (defScope sLCourse) := ⟨rfl, rfl, rfl, by decide +kernel, rfl, by decide +kernel, by decide +kernel⟩
theorem ok_lCourse (T : Txt K mg A) : FnOk P w K mg base CX0 1 A.fLCourse A.dLCourse ["_law_rows", "_law_weir"] spLCourse := by
  refine T.fnLCourse.ok scLCourse (fun vs H Q E h => ?_) (fun cdv AA outer s H vs Q E hr h => ?_)
  · obtain ⟨a, x, rows, rfl, _⟩ := h
    rfl
  · obtain ⟨a, x, rows, rfl, hR, hok, hx, k⟩ := h
    have hu := hu_of hr
    have G := hok.good
    have hm := hok.most
    obtain ⟨ps, h1, h2⟩ := id hR
    have hlen : ps.length = rows.length := paired_len h2
    refine ⟨_, pss_cons (ps_par (i := 2) (j := 3) rfl scLCourse.nd rfl rfl (by decide) rfl rfl (pa_cons (pe_callTy (call_dictP rfl) (by rfl) T.b_dict (by decide +kernel) (pa_cons (pv 0) pa_nil)) (pa_cons (pe_lst pa_nil) pa_nil)) rfl)
      (pss_cons (ps_for PassesOwn.never rfl (pi_range1 (by rfl) T.b_range (pa_cons (pe_callB call_len_seq (by rfl) T.b_len PySem.boot_len (pa_cons (pv 0) pa_nil)) pa_nil)) (pg_name (i := 4) scLCourse.nd rfl (Or.inl rfl))
        (pss_one (ps_if (pt_cmpR op_ne (pv 1) pe_str (nomark _))
          (pss_cons (ps_expr (pe_bm PySem.F.plainAttrs_list PySem.F.slot_list_append PySem.F.type_list_append mt_append (pv 3) (pa_cons (pv 1) pa_nil)))
          (pss_one (ps_set (i := 1) scLCourse.nd rfl (.inl rfl) (pe_dget hu (pv 2) (pv 1) (fun _ _ => rfl))))) pss_nil)))
      (pss_one (ps_ret (pv 3)))), ?_⟩
    refine q_parC (c_two (cd_rows (ev_var (v := .ref a) rfl) hR G fun d H1 nd e1 hd => ?_))
    refine (el_lst ea_nil (by simp)) H1 (Ex.refl H1) _ fun l H2 nl e2 hl => ⟨_, _, rfl, ?_⟩
    have nl0 := fresh_back e1 nl
    have e12 := e1.trans e2
    refine q_forR1 (n := (rows.length : Int)) (ea_cons (ev_lenP ((ep_of (ev_var (v := .ref a) rfl)).imp fun v H' e z => ⟨a, ps.map V.ref, z, .inl (sq_of ((e12.trans e) _ _ h1)), by rw [List.length_map, hlen]⟩)) ea_nil) (by omega)
      (fun i σ' H' => ∃ (v4 : Option V) (y : Str) (c' done : List Str), σ' = [some (.ref a), some (.str y), some (.ref d), some (.ref l), v4] ∧ Ex H H' ∧ H' d = some (.dK (lowKV rows)) ∧ H' l = some (.lst (done.map V.str)) ∧ IsPath sea rows y c' ∧ done ++ c' = course sea rows x ∧ c'.length ≤ rows.length - i)
      (fun H3 e3 => ⟨none, x, course sea rows x, [], rfl, e12.trans e3, (e2.trans e3) _ _ hd, e3 _ _ hl, G.path hx, rfl, by have := G.len hx; omega⟩) ?_ ?_
    · rintro i σ' H' hi ⟨v4, y, c', done, rfl, e3, hd3, hl3, hp, hdc, hc⟩
      by_cases hy : y = sea
      · have hc0 : c' = [] := by
          cases c' with
          | nil => rfl
          | cons z r => exact absurd hy hp.2.1
        refine s_when (b := false) (et_test (ev_neS (ev_var rfl) ev_c (by rw [decide_eq_true hy]; rfl))) (fun h => nomatch h) (fun _ H4 e4 => ⟨_, y, c', done, rfl, e3.trans e4, e4 _ _ hd3, e4 _ _ hl3, hp, hdc, by rw [hc0]; simp⟩)
      · refine s_when (b := true) (et_test (ev_neS (ev_var rfl) ev_c (by rw [decide_eq_false hy]; rfl))) (fun _ H4 e4 => ?_) (fun h => nomatch h)
        cases c' with
        | nil => exact absurd hp hy
        | cons z r =>
          obtain ⟨rfl, _, hmem, hp2⟩ := hp
          have hdl : (done.map V.str).length < 100000 := by
            have := congrArg List.length hdc
            have hl := G.len hx
            simp at this ⊢
            omega
          refine q_app (e4 _ _ hl3) (ev_var rfl) (ev_var (v := .str z) rfl) hdl fun H5 e5 => ?_
          have e6 : Ex H (upd H5 l (.lst (done.map V.str ++ [.str z]))) := Ex.mut ((e3.trans e4).trans e5) nl0
          have hdl2 : d ≠ l := fun e => by rw [e, hl3] at hd3; cases hd3
          have hd6 : (upd H5 l (.lst (done.map V.str ++ [.str z]))) d = some (.dK (lowKV rows)) := by rw [upd_ne hdl2]; exact (e4.trans e5) _ _ hd3
          refine s_asg (v := .str (low sea rows z)) (ev_dget (k := Sum.inr z) (ev_var rfl) (ev_var rfl) (.inl hd6) (lowKV_get G.nd hmem)) fun H6 e7 => ?_
          exact ⟨_, _, r, done ++ [z], rfl, e6.trans e7, e7 _ _ hd6, by rw [e7 _ _ upd_same]; simp, hp2, by rw [← hdc]; simp, by simp at hc; omega⟩
    · rintro σ' H' ⟨v4, y, c', done, rfl, e3, hd3, hl3, hp, hdc, hc⟩
      have hc0 : c' = [] := List.eq_nil_of_length_eq_zero (by rw [Int.toNat_natCast] at hc; omega)
      subst hc0
      rw [List.append_nil] at hdc
      subst hdc
      exact s_ret (ev_var (v := .ref l) rfl) fun H4 e4 => k l H4 nl0 (e3.trans e4) (e4 _ _ hl3)
end
end Wk

/-! the law's names of rights -/
namespace Wk
open PySem PySem.Spec PyProof.Rows L2 Evl LamX TL
theorem set_nodup {α : Type} {x : α} : ∀ {ns : List α} {j : Nat}, ns.Nodup → x ∉ ns → (ns.set j x).Nodup
  | [], _, _, _ => by simp
  | a :: r, 0, h, hx => by
    rw [List.set_cons_zero]
    rw [List.nodup_cons] at h ⊢
    exact ⟨fun z => hx (List.mem_cons_of_mem _ z), h.2⟩
  | a :: r, j + 1, h, hx => by
    rw [List.set_cons_succ]
    rw [List.nodup_cons] at h ⊢
    refine ⟨fun z => ?_, set_nodup h.2 fun z => hx (List.mem_cons_of_mem _ z)⟩
    rcases List.mem_or_eq_of_mem_set z with z | z
    · exact h.1 z
    · exact hx (by rw [z]; exact List.mem_cons_self)
theorem cutV_to {xs : List V} {k : Nat} : cutV xs none (some (k : Int)) = xs.take k := by
  unfold cutV
  rw [HT.sIx_none, HT.sIx_nat, List.drop_zero, Nat.sub_zero, ← List.take_take, List.take_length]
theorem cutV_from {xs : List V} {k : Nat} : cutV xs (some (k : Int)) none = xs.drop k := by
  unfold cutV
  rw [HT.sIx_none, HT.sIx_nat]
  by_cases h : k ≤ xs.length
  · rw [Nat.min_eq_left h]
    exact List.take_of_length_le (by rw [List.length_drop]; omega)
  · rw [Nat.min_eq_right (by omega), List.drop_length, List.drop_eq_nil_of_le (by omega), List.take_nil]
structure RNames (n : Nat) (ns : List Str) : Prop where
  len : ns.length = n
  nd : ns.Nodup
  nm : ∀ x ∈ ns, IsNm x
theorem c_sl {r : V → Option Int → Option Int → Hp → VK → Prop} {te : TE} {tl th : TO} {σ : L2.St} {H : Hp} {Q : VK} (h : te σ H fun x H1 => tl σ H1 fun l H2 => th σ H2 fun u H3 => r x l u H3 Q) : tSl r te tl th σ H Q := h
theorem c_lcL {K : PySem.W.Frag} {te tk : TE} {tt : TT} {g : TG} {vs : List Nat} {σ : L2.St} {H : Hp} {Q : VK} (h : te σ H fun v H1 => tLc (iList K (tC v)) g tt tk vs σ H1 Q) : tLc (iList K te) g tt tk vs σ H Q := h
theorem c_lcT {K : PySem.W.Frag} {te tk : TE} {tt : TT} {g : TG} {vs : List Nat} {σ : L2.St} {H : Hp} {Q : VK} (h : te σ H fun v H1 => tLc (iTup K (tC v)) g tt tk vs σ H1 Q) : tLc (iTup K te) g tt tk vs σ H Q := h
theorem q_ifC {t : TT} {tu tw tz : TS} {D : Ends} {σ : L2.St} {H : Hp} (h : t σ H fun b H1 => if b = true then tu { D with nx := tz D } σ H1 else tw { D with nx := tz D } σ H1) : tSeq (tIfS t tu tw) tz D σ H := h
theorem c_and {t u : TT} {σ : L2.St} {H : Hp} {Q : Bool → Hp → Prop} {b : Bool} (h : EvT t σ H b) (h1 : b = true → ∀ H1, Ex H H1 → u σ H1 Q) (h2 : b = false → ∀ H1, Ex H H1 → Q false H1) : tAnd t u σ H Q := h H (Ex.refl H) _ fun H1 e1 => by
  cases b with
  | true => exact h1 rfl H1 e1
  | false => exact h2 rfl H1 e1
/-- take(bag, n) == 0 -/
theorem c_take0 {ta tb : TE} {σ : L2.St} {H : Hp} {Q : Bool → Hp → Prop} {g : Addr} {n : Int} {E : XK} (hg : Ev ta σ H (.ref g)) (hn : Ev tb σ H (.int n)) (b : Bag g H) (h1 : 1 ≤ n) (h2 : n < 1000000) (k : ∀ (c : Bool) H2, ExO g H H2 → Bag g H2 → Q c H2) :
    tTest (tOp rEq (tCall spLTake [] E (tCons ta (tCons tb tNil))) (tC (.int 0))) σ H Q :=
  eb_take hg hn b h1 h2 fun r H2 hr e2 b2 => by
    have := ev_eqI (ta := tC (.int (r : Int))) (tb := tC (.int 0)) (σ := σ) (H := H2) ev_c ev_c rfl
    exact (et_test this) H2 (Ex.refl H2) Q fun H3 e3 => k _ H3 (e2.trans (ExO.of e3)) (b2.ex e3)
def spLRightNames : Sp := fun vs H Q _ => ∃ (g a : Addr) (n : Nat) (rows : List (Str × Str)), vs = [.ref g, .ref a, .int (n : Int)] ∧ Bag g H ∧ a ≠ g ∧ RowsAt H a rows ∧ RiverOk rows ∧ n ≤ 40 ∧ ∀ p ns H2, H p = none → ExO g H H2 → Bag g H2 → H2 p = some (.lst (ns.map V.str)) → RNames n ns → Q (.ref p) H2
section
variable {P : Program} {w : World} {K : PySem.W.Frag} {mg : Str → Option Value} {base : Heap} {A : Adr}
abbrev nLRightN : List Str := ["_law_bag_here", "_law_rows", "_law_many", "_law_names_here", "_law_row"]
theorem scLRightN : FnScope nLRightN ["_law_bag_here", "_law_rows", "_law_many"] (defScope sLRightNames) := ⟨rfl, rfl, rfl, by decide +kernel, rfl, by decide +kernel, by decide +kernel⟩
theorem ok_lRightNames (T : Txt K mg A) : FnOk P w K mg base CX0 4 A.fLRightNames A.dLRightNames ["_law_bag_here", "_law_rows", "_law_many"] spLRightNames := by
  have GT : FnOk P w K mg base CX0 1 A.fLTake A.dLTake ["_law_bag_here", "_law_many"] spLTake := ok_lTake T
  have GN : FnOk P w K mg base CX0 3 A.fLNames A.dLNames ["_law_bag_here", "_law_many"] spLNames := ok_lNames T
  have GM : FnOk P w K mg base CX0 2 A.fLMixed A.dLMixed ["_law_bag_here", "_law_some"] spLMixed := ok_lMixed T
  refine T.fnLRightNames.ok scLRightN (fun vs H Q E h => ?_) (fun cdv AA outer s H vs Q E hr h => ?_)
  · obtain ⟨g, a, n, rows, rfl, _⟩ := h
    rfl
  · obtain ⟨g, a, n, rows, rfl, hB, hag, hR, hok, hn, k⟩ := h
    have hr1 : Room 1 _ := hr.mono (by decide)
    have hr2 : Room 2 _ := hr.mono (by decide)
    have hm := hok.most
    refine ⟨_, pss_cons (ps_set (i := 3) scLRightN.nd rfl (.inl rfl) (pe_call GN hr rfl T.mgLNames T.fnLNames.kp T.bdLNames .nil pass0 (pa_cons (pv 0) (pa_cons (pv 2) pa_nil))))
      (pss_cons (ps_if (PW.pt (pw_and (pt_cmpR op_le (pv 2) (pe_callB call_len_seq (by rfl) T.b_len PySem.boot_len (pa_cons (pv 1) pa_nil)) (nomark _)) (pw_and1 (pt_cmpR op_eq (pe_call GT hr1 rfl T.mgLTake T.fnLTake.kp T.bdLTake .nil pass0 (pa_cons (pv 0) (pa_cons pe_int pa_nil))) pe_int (nomark _)))))
        (pss_one (ps_set (i := 3) scLRightN.nd rfl (.inl rfl) (pe_slice sl_list
          (pe_lc (own := [("_law_row", 4)]) (g := gName 4) (tt := tYes) (te := tOp (rIxT K) (tVar 4) (tC (.int 0))) rfl scLRightN.nd (pi_list (pe_call GM hr2 rfl T.mgLMixed T.fnLMixed.kp T.bdLMixed .nil pass0 (pa_cons (pv 0) (pa_cons (pv 1) pa_nil)))) (blkOk_by (own := [("_law_row", 4)]) (N := nLRightN) (sc := defScope sLRightNames) (by decide +kernel))
            (fun _ _ _ _ _ => pg_name (i := 4) scLRightN.nd rfl (Or.inl rfl)) (fun _ _ _ _ _ => pts_nil) (fun _ _ _ _ _ => pe_ix ix_tup (pv 4) pe_int (fun _ _ => rfl)))
          po_none (po_some (pv 2))))) pss_nil)
      (pss_cons (ps_if (PW.pt (pw_and (pt_cmpR op_gt (pv 2) pe_int (nomark _)) (pw_and1 (pt_cmpR op_eq (pe_call GT hr1 rfl T.mgLTake T.fnLTake.kp T.bdLTake .nil pass0 (pa_cons (pv 0) (pa_cons pe_int pa_nil))) pe_int (nomark _)))))
        (pss_one (ps_asg pe_str (pg_sub (pv 3) (pe_call GT hr1 rfl T.mgLTake T.fnLTake.kp T.bdLTake .nil pass0 (pa_cons (pv 0) (pa_cons (pv 2) pa_nil))) set_list))) pss_nil)
      (pss_one (ps_ret (pv 3))))), ?_⟩
    have step3 : ∀ (q : Addr) (ns : List Str) (H' : Hp), ExO g H H' → Bag g H' → H q = none → H' q = some (.lst (ns.map V.str)) → RNames n ns → sea ∉ ns →
        tSeq (tIfS (tAnd (tTest (tOp (rI0 fun i j => .bl (decide (j < i))) (tVar 2) (tC (.int 0)))) (tTest (tOp rEq (tCall spLTake [] E0 (tCons (tVar 0) (tCons (tC (.int 6)) tNil))) (tC (.int 0))))) (tAsg (tC (.str sea)) (gSub (tVar 3) (tCall spLTake [] E0 (tCons (tVar 0) (tCons (tVar 2) tNil))) rSetL)) tNext) (tRet (tVar 3))
          { nx := fun _ H' => Q .non H', rt := Q } [some (.ref g), some (.ref a), some (.int (n : Int)), some (.ref q), none] H' := by
      intro q ns H' e b nq hq N hs
      have hqg := hB.ne nq
      have ret : ∀ {ns : List Str} {H'' : Hp}, ExO g H H'' → Bag g H'' → H'' q = some (.lst (ns.map V.str)) → RNames n ns → tRet (tVar 3) { nx := fun _ H' => Q .non H', rt := Q } [some (.ref g), some (.ref a), some (.int (n : Int)), some (.ref q), none] H'' := fun e b hq N =>
        s_ret (ev_var (v := .ref q) rfl) fun H2 e2 => k q _ H2 nq (e.trans (ExO.of e2)) (b.ex e2) (e2 _ _ hq) N
      refine q_ifC (c_and (b := decide (0 < (n : Int))) (et_test (ev_cmpI (f := fun i j => decide (j < i)) (ev_var rfl) ev_c rfl)) (fun h0 H1 e1 => c_take0 (ev_var (v := .ref g) rfl) ev_c (b.ex e1) (by decide) (by decide) fun c H2 e2 b2 => ?_) (fun _ H1 e1 => ?_))
      · have E2 : ExO g H H2 := (e.trans (ExO.of e1)).trans e2
        have hq2 := e2 _ _ hqg (e1 _ _ hq)
        cases c with
        | false =>
          rw [if_neg (by decide)]
          exact ret E2 b2 hq2 N
        | true =>
          rw [if_pos rfl]
          have hn0 : 0 < (n : Int) := of_decide_eq_true h0
          refine (ev_c (σ := [some (.ref g), some (.ref a), some (.int (n : Int)), some (.ref q), none]) (v := .str sea)) H2 (Ex.refl H2) _ fun H3 e3 => ?_
          refine (ev_var (v := .ref q) rfl) H3 (Ex.refl H3) _ fun H4 e4 => ?_
          have e34 := e3.trans e4
          refine eb_take (ev_var (v := .ref g) rfl) (ev_var (v := .int (n : Int)) rfl) (b2.ex e34) (by omega) (by omega) fun j H5 hj e5 b5 => ?_
          have hq5 := e5 _ _ hqg (e34 _ _ hq2)
          have hjl : j < (ns.map V.str).length := by rw [List.length_map, N.len]; omega
          refine ⟨q, _, (j : Int), j, rfl, rfl, hq5, ixN_nat hjl, ?_⟩
          refine ret (ns := ns.set j sea) (((E2.trans (ExO.of e34)).trans e5).mut nq) (b5.up hqg) (by rw [upd_same, List.map_set]) ⟨by rw [List.length_set]; exact N.len, set_nodup N.nd hs, fun x hx => ?_⟩
          rcases List.mem_or_eq_of_mem_set hx with z | z
          · exact N.nm x z
          · rw [z]
            exact sea_nm
      · rw [if_neg (by decide)]
        exact ret (e.trans (ExO.of e1)) (b.ex e1) (e1 _ _ hq) N
    refine q_asgC (c_call2 (ev_var (v := .ref g) rfl) (ev_var (v := .int (n : Int)) rfl) fun H1 e1 => ⟨g, n, rfl, hB.ex e1, hn, fun q ns H2 nq e2 b2 hq N => ?_⟩)
    have E2 : ExO g H H2 := (ExO.of e1).trans e2
    have nq0 : H q = none := (ExO.of e1).back (hB.ex e1) nq
    have hqg := hB.ne nq0
    have N1 : RNames n ns := ⟨N.len, N.nd, fun x hx => (N.nm x hx).1⟩
    have N2 : sea ∉ ns := fun z => (N.nm _ z).2 rfl
    have hR2 := hR.exO E2 hB hag
    obtain ⟨ps, h1, h2⟩ := id hR2
    have hpl : ps.length = rows.length := paired_len h2
    refine q_ifC (c_and (b := decide ((n : Int) ≤ (rows.length : Int))) (et_test (ev_cmpI (f := fun i j => decide (i ≤ j)) (ev_var rfl) (ev_lenP ((ep_of (ev_var (v := .ref a) rfl)).imp fun v H' e z => ⟨a, ps.map V.ref, z, .inl (sq_of (e _ _ h1)), by rw [List.length_map, hpl]⟩)) rfl)) (fun h0 H3 e3 => c_take0 (ev_var (v := .ref g) rfl) ev_c (b2.ex e3) (by decide) (by decide) fun c H4 e4 b4 => ?_) (fun _ H3 e3 => ?_))
    · have E4 : ExO g H H4 := (E2.trans (ExO.of e3)).trans e4
      have hq4 := e4 _ _ hqg (e3 _ _ hq)
      cases c with
      | false =>
        rw [if_neg (by decide)]
        exact step3 q ns H4 E4 b4 nq0 hq4 N1 N2
      | true =>
        rw [if_pos rfl]
        have hnr : n ≤ rows.length := by
          have := of_decide_eq_true h0
          omega
        obtain ⟨ps4, h41, h42⟩ := hR.exO E4 hB hag
        refine q_asgC (c_sl (c_lcL ?_))
        refine c_call2 (ev_var (v := .ref g) rfl) (ev_var (v := .ref a) rfl) fun H5 e5 => ⟨g, a, ps4.map V.ref, rfl, b4.ex e5, hag, e5 _ _ h41, by rw [List.length_map, paired_len h42]; omega, fun p ys H6 np e6 b6 hp hys => ?_⟩
        obtain ⟨qs, rfl, hqs⟩ := refs_perm hys
        obtain ⟨rows', h3, h4⟩ := paired_perm hqs h42
        have E5 : ExO g H H5 := E4.trans (ExO.of e5)
        have E6 : ExO g H H6 := E5.trans e6
        have h3' : Paired (fun p (r : Str × Str) => H6 p = some (.tup [.str r.1, .str r.2])) qs rows' := Paired.mapP h3 fun c rr z => by
          refine e6 c _ (fun e => ?_) (e5 _ _ z)
          obtain ⟨a, b, hg⟩ := b4
          rw [e, hg] at z
          cases z
        have hok' := hok.perm h4
        have hL : EvL (tLc (iList K (tC (.ref p))) (gName 4) tYes (tOp (rIxT K) (tVar 4) (tC (.int 0))) [4]) [some (.ref g), some (.ref a), some (.int (n : Int)), some (.ref q), none] H6 ((wns rows').map V.str) := by
          rw [show (wns rows').map V.str = rows'.map (fun r => V.str r.1) by unfold wns; rw [List.map_map]; rfl]
          refine lcM rows' (fun r => V.str r.1) (src_len (src_list ev_c (sq_of hp)) (by rw [List.length_map, paired_len h3])) (by rw [h4.length_eq]; omega) (fun i r v H7 hri e7 hv => ?_)
          obtain ⟨p', rfl, hp'⟩ := refs_get hv
          obtain ⟨r', hr1', hr2'⟩ := paired_get h3' hp'
          rw [hri] at hr1'
          cases hr1'
          exact ⟨_, tgt_name rfl, ev_ixT (ev_var rfl) ev_c (st_of (e7 _ _ hr2')) (at_nat (n := 0) rfl)⟩
        refine hL H6 (Ex.refl H6) _ fun p' H7 np' e7 hp' => eo_none H7 (Ex.refl H7) _ fun H8 e8 => (eo_some (i := (n : Int)) (ev_var rfl)) H8 (Ex.refl H8) _ fun H9 e9 => ⟨p', _, rfl, sq_of ((e8.trans e9) _ _ hp'), fun l nl => ?_⟩
        have e69 := e7.trans (e8.trans e9)
        have E9 : ExO g H H9 := E6.trans (ExO.of e69)
        have b9 := b6.ex e69
        have nl0 := E9.back b9 nl
        refine step3 l ((wns rows').take n) _ (E9.mut nl0) (b9.up (b9.ne nl)) nl0 (by rw [upd_same, cutV_to, List.map_take]) ⟨?_, List.Nodup.sublist (List.take_sublist _ _) hok'.good.nd, fun x hx => weir_nm hok' (List.mem_of_mem_take hx)⟩ (fun z => ?_)
        · have : (wns rows').length = rows.length := by unfold wns; rw [List.length_map, h4.length_eq]
          rw [List.length_take, this]
          omega
        · obtain ⟨r, hr, e⟩ := List.mem_map.mp (List.mem_of_mem_take z)
          exact hok'.good.nosea r hr e
    · rw [if_neg (by decide)]
      exact step3 q ns H3 (E2.trans (ExO.of e3)) (b2.ex e3) nq0 (e3 _ _ hq) N1 N2
end
end Wk

/-! the law's rights -/
namespace Wk
open PySem PySem.Spec PyProof.Rows L2 Evl LamX TL
theorem q_forCL {K : PySem.W.Frag} {te : TE} {g : TG} {tu tz : TS} {D : Ends} {σ : L2.St} {H : Hp} (h : te σ H fun v H1 => tSeq (tFor (iList K (tC v)) g tu) tz D σ H1) : tSeq (tFor (iList K te) g tu) tz D σ H := h
theorem paired_mem {α β : Type} {F : α → β → Prop} {l : List α} {m : List β} (h : Paired F l m) {a : α} (ha : a ∈ l) : ∃ b, b ∈ m ∧ F a b := by
  obtain ⟨i, e⟩ := List.getElem?_of_mem ha
  obtain ⟨b, h1, h2⟩ := paired_get h e
  exact ⟨b, List.mem_of_getElem? h1, h2⟩
/-- the rights made for the first i names -/
structure RBld (rows : List (Str × Str)) (ns : List Str) (rts : List (Str × Str × Str)) (i : Nat) : Prop where
  fst : nms rts = ns.take i
  ok : ∀ r ∈ rts, r.2.1 ∈ rows.map (·.1) ∧ (r.2.2 = sea ∨ r.2.2 ∈ course sea rows r.2.1)
theorem RBld.snoc {rows : List (Str × Str)} {ns : List Str} {rts : List (Str × Str × Str)} {i : Nat} (h : RBld rows ns rts i) {x y z : Str} (hx : ns[i]? = some x) (hy : y ∈ rows.map (·.1)) (hz : z = sea ∨ z ∈ course sea rows y) : RBld rows ns (rts ++ [(x, y, z)]) (i + 1) := by
  refine ⟨?_, fun r hr => ?_⟩
  · have := h.fst
    unfold nms at this ⊢
    rw [List.map_append, this, take_snoc hx]
    rfl
  · rcases List.mem_append.mp hr with e | e
    · exact h.ok r e
    · rw [List.mem_singleton.mp e]
      exact ⟨hy, hz⟩
theorem RBld.done {rows : List (Str × Str)} {n : Nat} {ns : List Str} {rts : List (Str × Str × Str)} (h : RBld rows ns rts ns.length) (N : RNames n ns) (hn : n ≤ 40) : RightsOk rows rts := by
  have hf : nms rts = ns := by rw [h.fst, List.take_length]
  refine ⟨⟨by rw [hf]; exact N.nd, h.ok⟩, ?_, fun r hr => ?_⟩
  · have := congrArg List.length hf
    rw [nms_len, N.len] at this
    omega
  · refine N.nm r.1 ?_
    rw [← hf]
    exact List.mem_map.mpr ⟨r, hr, rfl⟩
def spLRights : Sp := fun vs H Q _ => ∃ (g a : Addr) (n : Nat) (rows : List (Str × Str)), vs = [.ref g, .ref a, .int (n : Int)] ∧ Bag g H ∧ a ≠ g ∧ RowsAt H a rows ∧ RiverOk rows ∧ n ≤ 40 ∧ ∀ p rts H2, H p = none → ExO g H H2 → Bag g H2 → RghAt H2 p rts → RightsOk rows rts → Q (.ref p) H2
section
variable {P : Program} {w : World} {K : PySem.W.Frag} {mg : Str → Option Value} {base : Heap} {A : Adr}
abbrev nLRights : List Str := ["_law_bag_here", "_law_rows", "_law_many", "_law_found", "_law_name", "_law_course_here", "_law_at"]
theorem scLRights : FnScope nLRights ["_law_bag_here", "_law_rows", "_law_many"] (defScope sLRights) := ⟨rfl, rfl, rfl, by decide +kernel, rfl, by decide +kernel, by decide +kernel⟩
theorem ok_lRights (T : Txt K mg A) : FnOk P w K mg base CX0 5 A.fLRights A.dLRights ["_law_bag_here", "_law_rows", "_law_many"] spLRights := by
  have GT : FnOk P w K mg base CX0 1 A.fLTake A.dLTake ["_law_bag_here", "_law_many"] spLTake := ok_lTake T
  have GO : FnOk P w K mg base CX0 2 A.fLOf A.dLOf nLOf spLOf := ok_lOf T
  have GC : FnOk P w K mg base CX0 1 A.fLCourse A.dLCourse ["_law_rows", "_law_weir"] spLCourse := ok_lCourse T
  have GR : FnOk P w K mg base CX0 4 A.fLRightNames A.dLRightNames ["_law_bag_here", "_law_rows", "_law_many"] spLRightNames := ok_lRightNames T
  refine T.fnLRights.ok scLRights (fun vs H Q E h => ?_) (fun cdv AA outer s H vs Q E hr h => ?_)
  · obtain ⟨g, a, n, rows, rfl, _⟩ := h
    rfl
  · obtain ⟨g, a, n, rows, rfl, hB, hag, hR, hok, hn, k⟩ := h
    have hr1 : Room 1 _ := hr.mono (by decide)
    have hr2 : Room 2 _ := hr.mono (by decide)
    have hm := hok.most
    have G := hok.good
    refine ⟨_, pss_cons (ps_set (i := 3) scLRights.nd rfl (.inl rfl) (pe_lst pa_nil))
      (pss_cons (ps_for PassesOwn.never rfl (pi_list (pe_call GR hr rfl T.mgLRightNames T.fnLRightNames.kp T.bdLRightNames .nil pass0 (pa_cons (pv 0) (pa_cons (pv 1) (pa_cons (pv 2) pa_nil))))) (pg_name (i := 4) scLRights.nd rfl (Or.inl rfl))
        (pss_cons (ps_set (i := 5) scLRights.nd rfl (.inl rfl) (pe_call GC hr1 rfl T.mgLCourse T.fnLCourse.kp T.bdLCourse .nil pass0 (pa_cons (pv 1) (pa_cons (pe_ix ix_tup (pe_call GO hr2 rfl T.mgLOf T.fnLOf.kp T.bdLOf .nil pass0 (pa_cons (pv 0) (pa_cons (pv 1) pa_nil))) pe_int (fun _ _ => rfl)) pa_nil))))
        (pss_cons (ps_set (i := 6) scLRights.nd rfl (.inl rfl) (pe_call GT hr1 rfl T.mgLTake T.fnLTake.kp T.bdLTake .nil pass0 (pa_cons (pv 0) (pa_cons (pe_op op_add (pe_callB call_len_seq (by rfl) T.b_len PySem.boot_len (pa_cons (pv 5) pa_nil)) pe_int) pa_nil))))
        (pss_one (ps_expr (pe_bm PySem.F.plainAttrs_list PySem.F.slot_list_append PySem.F.type_list_append mt_append (pv 3) (pa_cons (pe_tup (pa_cons (pv 4) (pa_cons (pe_ix ix_list (pv 5) pe_int (fun _ _ => rfl)) (pa_cons
          (pe_ifExp (pt_cmpR op_lt (pv 6) (pe_callB call_len_seq (by rfl) T.b_len PySem.boot_len (pa_cons (pv 5) pa_nil)) (nomark _)) (pe_ix ix_list (pv 5) (pv 6) (fun _ _ => rfl)) pe_str) pa_nil)))) pa_nil)))))))
      (pss_one (ps_ret (pv 3)))), ?_⟩
    refine q_asgL (el_lst ea_nil (by simp)) fun l H0 nl e0 hl => ?_
    have hlg : l ≠ g := hB.ne nl
    refine q_forCL (c_call3 (ev_var (v := .ref g) rfl) (ev_var (v := .ref a) rfl) (ev_var (v := .int (n : Int)) rfl) fun H1 e1 => ⟨g, a, n, rows, rfl, hB.ex (e0.trans e1), hag, hR.ex (e0.trans e1), hok, hn, fun q ns H2 nq e2 b2 hq N => ?_⟩)
    have e01 := e0.trans e1
    have nq0 : H q = none := (ExO.of e01).back (hB.ex e01) nq
    have hqg := hB.ne nq0
    have E2 : ExO g H H2 := (ExO.of e01).trans e2
    have hl2 : H2 l = some (.lst []) := e2 _ _ hlg (e1 _ _ hl)
    have hlq : l ≠ q := fun z => by rw [← z, e1 _ _ hl] at nq; cases nq
    refine q_forL (a := q) (xs := ns.map V.str) ev_c (sq_of hq)
      (fun i σ' H' => ∃ (v4 v5 v6 : Option V) (rts : List (Str × Str × Str)), σ' = [some (.ref g), some (.ref a), some (.int (n : Int)), some (.ref l), v4, v5, v6] ∧ ExO g H H' ∧ Bag g H' ∧ H' q = some (.lst (ns.map V.str)) ∧ RghAt H' l rts ∧ RBld rows ns rts i)
      (fun H3 e3 => ⟨none, none, none, [], rfl, E2.trans (ExO.of e3), b2.ex e3, e3 _ _ hq, ⟨[], e3 _ _ hl2, .nil⟩, ⟨rfl, fun r hr => absurd hr (by simp)⟩⟩) (fun i σ' H' _ ⟨_, _, _, _, _, _, _, h, _⟩ => sq_of h) ?_ ?_
    · rintro i x σ' H' hx ⟨v4, v5, v6, rts, rfl, e3, b3, hq3, hG, hb⟩
      obtain ⟨nm, hnm⟩ : ∃ nm, ns[i]? = some nm := by
        have hi := (List.getElem?_eq_some_iff.mp hx).1
        rw [List.length_map] at hi
        exact ⟨_, List.getElem?_eq_getElem hi⟩
      have := item_str hx hnm
      subst this
      have hlen : rts.length ≤ 40 := by
        have := congrArg List.length hb.fst
        rw [nms_len, List.length_take, N.len] at this
        omega
      have hR3 := hR.exO e3 hB hag
      refine q_asgC (c_call (c_two ?_))
      refine (ev_var (v := .ref a) rfl) H' (Ex.refl H') _ fun H4 e4 => c_op (c_call2 (ev_var (v := .ref g) rfl) (ev_var (v := .ref a) rfl) fun H5 e5 => ?_)
      have e45 := e4.trans e5
      obtain ⟨ps, h1, h2⟩ := hR3.ex e45
      refine ⟨g, a, ps.map V.ref, rfl, b3.ex e45, hag, h1, ?_, ?_, fun v H6 e6 b6 hv => ?_⟩
      · rw [List.length_map, paired_len h2]
        have := G.ne
        cases rows with
        | nil => exact absurd rfl this
        | cons _ _ => simp
      · rw [List.length_map, paired_len h2]
        omega
      · obtain ⟨p', hp', rfl⟩ := List.mem_map.mp hv
        obtain ⟨r, hrm, hr5⟩ := paired_mem h2 hp'
        have hr6 : H6 p' = some (.tup [.str r.1, .str r.2]) := by
          refine e6 _ _ (fun z => ?_) hr5
          obtain ⟨x, y, hg⟩ := b3.ex e45
          rw [z, hg] at hr5
          cases hr5
        have hw : r.1 ∈ rows.map (·.1) := List.mem_map.mpr ⟨r, hrm, rfl⟩
        have E6 : ExO g H H6 := (e3.trans (ExO.of e45)).trans e6
        refine (ev_c (σ := [some (.ref g), some (.ref a), some (.int (n : Int)), some (.ref l), some (.str nm), v5, v6]) (v := .int 0)) H6 (Ex.refl H6) _ fun H7 e7 => ⟨p', _, 0, .str r.1, rfl, rfl, st_of (e7 _ _ hr6), at_nat (n := 0) rfl, a, r.1, rows, rfl, hR.exO (E6.trans (ExO.of e7)) hB hag, hok, hw, fun c H8 nc e8 hc => ?_⟩
        have e78 := e7.trans e8
        have E8 : ExO g H H8 := E6.trans (ExO.of e78)
        have b8 := b6.ex e78
        have hcl : (course sea rows r.1).length ≤ rows.length := G.len hw
        refine q_asgC (eb_take (ev_var (v := .ref g) rfl) (ev_add (ev_lenSq (ea_cons (ev_var rfl) ea_nil) (.inl (sq_of hc))) ev_c) b8 (by omega) (by rw [List.length_map]; omega) fun j H9 hj e9 b9 => ?_)
        have hcg : c ≠ g := by
          intro z
          obtain ⟨x, y, hg⟩ := b6.ex e7
          rw [z, hg] at nc
          cases nc
        have hc9 : H9 c = some (.lst ((course sea rows r.1).map V.str)) := e9 _ _ hcg hc
        have E9 : ExO g H H9 := E8.trans e9
        have ec : ExO g H' H9 := ((ExO.of e45).trans e6).trans ((ExO.of e78).trans e9)
        obtain ⟨gs, g1, g2⟩ := hG.exO ec b3 hlg
        obtain ⟨rest, hst⟩ := G.start hw
        let z : Str := if j < (course sea rows r.1).length then (course sea rows r.1).getD j sea else sea
        have hz : z = sea ∨ z ∈ course sea rows r.1 := by
          by_cases hjl : j < (course sea rows r.1).length
          · refine .inr ?_
            show (if j < (course sea rows r.1).length then (course sea rows r.1).getD j sea else sea) ∈ _
            rw [if_pos hjl, List.getD_eq_getElem?_getD, List.getElem?_eq_getElem hjl]
            exact List.getElem_mem hjl
          · exact .inl (if_neg hjl)
        refine s_appU (ys := [.str nm, .str r.1, .str z]) g1 (ev_var rfl) (eu_tup (ea_cons (ev_var rfl) (ea_cons (ev_ixL (ev_var rfl) ev_c (sq_of hc9) (at_nat (n := 0) (by rw [hst]; rfl))) (ea_cons (ev_if (b := decide (j < (course sea rows r.1).length)) (et_test (ev_cmpI (f := fun i j => decide (i < j)) (ev_var rfl) (ev_lenSq (ea_cons (ev_var rfl) ea_nil) (.inl (sq_of hc9))) (by rw [List.length_map, decide_eq_decide]; omega))) (fun h => ?_) (fun h => ?_)) ea_nil))) (by simp)) (by rw [List.length_map, paired_len g2]; omega) fun p H10 np e10 hp => ?_
        · have hjl : j < (course sea rows r.1).length := of_decide_eq_true h
          refine ev_ixL (ev_var rfl) (ev_var rfl) (sq_of hc9) (at_nat (n := j) ?_)
          rw [List.getElem?_map, List.getElem?_eq_getElem hjl]
          show _ = some (V.str (if j < (course sea rows r.1).length then (course sea rows r.1).getD j sea else sea))
          rw [if_pos hjl, List.getD_eq_getElem?_getD, List.getElem?_eq_getElem hjl]
          rfl
        · have hjl : ¬ j < (course sea rows r.1).length := of_decide_eq_false h
          have : z = sea := if_neg hjl
          rw [this]
          exact ev_c
        · have hpl : p ≠ l := fun e => by rw [e, g1] at np; cases np
          have np0 : H p = none := E9.back b9 np
          refine ⟨_, _, _, rts ++ [(nm, r.1, z)], rfl, (E9.trans (ExO.of e10)).mut nl, (b9.ex e10).up hlg, ?_, ⟨gs ++ [p], by rw [upd_same, List.map_append]; rfl, ?_⟩, hb.snoc hnm hw hz⟩
          · rw [upd_ne (Ne.symm hlq)]
            exact e10 _ _ (ec _ _ hqg hq3)
          · refine paired_snoc (Paired.mapP g2 fun c rr q => ?_) ?_
            · rw [upd_ne (fun e => by rw [e, g1] at q; cases q)]
              exact e10 _ _ q
            · rw [upd_ne hpl]
              exact hp
    · rintro σ' H' ⟨v4, v5, v6, rts, rfl, e3, b3, hq3, hG, hb⟩
      rw [List.length_map] at hb
      exact s_ret (ev_var (v := .ref l) rfl) fun H4 e4 => k l rts H4 nl (e3.trans (ExO.of e4)) (b3.ex e4) (hG.ex e4) (hb.done N hn)
end
end Wk

/-! the law's way, meets -/
namespace Wk
open PySem PySem.Spec PyProof.Rows L2 Evl LamX TL
def spLWay : Sp := fun vs H Q _ => ∃ (a q : Addr) (n i l : Str) (rows : List (Str × Str)), vs = [.ref a, .ref q] ∧ RowsAt H a rows ∧ RiverOk rows ∧ H q = some (.tup [.str n, .str i, .str l]) ∧ i ∈ wns rows ∧ (l = sea ∨ l ∈ course sea rows i) ∧ ∀ p H2, H p = none → Ex H H2 → H2 p = some (.lst ((way sea rows i l).map V.str)) → Q (.ref p) H2
/-- a dict of ways: lists of weirs -/
def WaysAt (H : Hp) (d : Addr) (rows : List (Str × Str)) (rts : List (Str × Str × Str)) : Prop := ∃ (o : Obj) (kvs : List (Key × V)), H d = some (.frz o (.dK kvs)) ∧ DOf H kvs (nms rts) (fun n => IsL (wyS rows rts n))
theorem IsL.ex {ss : List Str} {v : V} {H H' : Hp} (e : Ex H H') (h : IsL ss v H) : IsL ss v H' := by
  obtain ⟨p, h1, h2⟩ := h
  exact ⟨p, h1, e _ _ h2⟩
theorem IsL.extN {ss : List Str} {v : V} {H H' : Hp} (e : ExtN H H') (h : IsL ss v H) : IsL ss v H' := by
  obtain ⟨p, h1, h2⟩ := h
  exact ⟨p, h1, e _ _ h2 nofun⟩
theorem WaysAt.ex {H H' : Hp} {d : Addr} {rows : List (Str × Str)} {rts : List (Str × Str × Str)} (e : Ex H H') (h : WaysAt H d rows rts) : WaysAt H' d rows rts := by
  obtain ⟨o, kvs, h1, h2⟩ := h
  exact ⟨o, kvs, e _ _ h1, h2.mono fun _ _ z => z.ex e⟩
theorem WaysAt.extN {H H' : Hp} {d : Addr} {rows : List (Str × Str)} {rts : List (Str × Str × Str)} (e : ExtN H H') (h : WaysAt H d rows rts) : WaysAt H' d rows rts := by
  obtain ⟨o, kvs, h1, h2⟩ := h
  exact ⟨o, kvs, e _ _ h1 nofun, h2.mono fun _ _ z => z.extN e⟩
def spLMeets : Sp := fun vs H Q _ => ∃ (d : Addr) (x y : Str) (rows : List (Str × Str)) (rts : List (Str × Str × Str)), vs = [.ref d, .str x, .str y] ∧ WaysAt H d rows rts ∧ RiverOk rows ∧ RightsOk rows rts ∧ x ∈ nms rts ∧ y ∈ nms rts ∧ RetV (.bl (meets (wyS rows rts) x y)) H Q
theorem s_retC {te : TE} {D : Ends} {σ : L2.St} {H : Hp} (h : te σ H D.rt) : tRet te D σ H := h
/-- xs.index(x) of texts -/
theorem ev_index {K : PySem.W.Frag} {σ : L2.St} {H : Hp} {ta te : TE} {a : Addr} {ss : List Str} {y : Str} {j : Nat} (ha : Ev ta σ H (.ref a)) (he : Ev te σ H (.str y)) (hs : H a = some (.lst (ss.map V.str))) (hj : ss[j]? = some y) (hno : ∀ m, m < j → ss[m]? ≠ some y) :
    Ev (tBM K "list" (rIndex K) ta (tCons te tNil)) σ H (.int (j : Int)) := fun H1 e1 Q q => ha H1 e1 _ fun H2 e2 => ⟨.inl ⟨rfl, _, sq_of (e2 _ _ (e1 _ _ hs))⟩, he H2 (e1.trans e2) _ fun H3 e3 => ⟨a, ss.map V.str, .str y, j, .str y, rfl, rfl, sq_of ((e1.trans (e2.trans e3)) _ _ hs), rfl, flat_strs, by rw [List.getElem?_map, hj]; rfl, by simp [eqV], fun m z' hm hz => by
    rw [List.getElem?_map] at hz
    cases hq : ss[m]? with
    | none => rw [hq] at hz; cases hz
    | some u =>
      rw [hq] at hz
      cases hz
      have : u ≠ y := fun e => hno m hm (by rw [hq, e])
      simpa [eqV] using this, q H3 (e2.trans e3)⟩⟩
section
variable {P : Program} {w : World} {K : PySem.W.Frag} {mg : Str → Option Value} {base : Heap} {A : Adr}
/-- ways[x] -/
theorem ep_ways {σ : L2.St} {H : Hp} {ta tb : TE} {d : Addr} {x : Str} {rows : List (Str × Str)} {rts : List (Str × Str × Str)} (ha : Ev ta σ H (.ref d)) (hb : Ev tb σ H (.str x)) (hW : WaysAt H d rows rts) (hx : x ∈ nms rts) : EvP (tDGet ta tb) σ H (IsL (wyS rows rts x)) := by
  obtain ⟨o, kvs, h1, h2⟩ := hW
  obtain ⟨v, hv, hq⟩ := h2.get hx
  exact (ep_of (ev_dget (k := Sum.inr x) ha hb (.inr ⟨o, h1⟩) hv)).imp fun v' H' e z => by
    subst z
    exact hq.ex e
abbrev nLWay : List Str := ["_law_rows", "_law_right", "_law_course_here"]
theorem scLWay : FnScope nLWay ["_law_rows", "_law_right"] (defScope sLWay) := ⟨rfl, rfl, rfl, by decide +kernel, rfl, by decide +kernel, by decide +kernel⟩
theorem ok_lWay (T : Txt K mg A) : FnOk P w K mg base CX0 2 A.fLWay A.dLWay ["_law_rows", "_law_right"] spLWay := by
  have GC : FnOk P w K mg base CX0 1 A.fLCourse A.dLCourse ["_law_rows", "_law_weir"] spLCourse := ok_lCourse T
  refine T.fnLWay.ok scLWay (fun vs H Q E h => ?_) (fun cdv AA outer s H vs Q E hr h => ?_)
  · obtain ⟨a, q, n, i, l, rows, rfl, _⟩ := h
    rfl
  · obtain ⟨a, q, n, i, l, rows, rfl, hR, hok, hq, hi, hl, k⟩ := h
    have G := hok.good
    refine ⟨_, pss_cons (ps_set (i := 2) scLWay.nd rfl (.inl rfl) (pe_call GC hr rfl T.mgLCourse T.fnLCourse.kp T.bdLCourse .nil pass0 (pa_cons (pv 0) (pa_cons (pe_ix ix_tup (pv 1) pe_int (fun _ _ => rfl)) pa_nil))))
      (pss_one (ps_ret (pe_ifExp (pt_cmpR op_eq (pe_ix ix_tup (pv 1) pe_int (fun _ _ => rfl)) pe_str (nomark _)) (pv 2)
        (pe_slice sl_list (pv 2) po_none (po_some (pe_op op_add (pe_bm PySem.F.plainAttrs_list PySem.F.slot_list_index PySem.F.type_list_index mt_index (pv 2) (pa_cons (pe_ix ix_tup (pv 1) pe_int (fun _ _ => rfl)) pa_nil)) pe_int)))))), ?_⟩
    refine q_asgC (c_call2 (ev_var (v := .ref a) rfl) (ev_ixT (v := .str i) (ev_var rfl) ev_c (st_of hq) (at_nat (n := 1) rfl)) fun H1 e1 => ⟨a, i, rows, rfl, hR.ex e1, hok, hi, fun p H2 np e2 hp => ?_⟩)
    have e12 := e1.trans e2
    have hl2 : ∀ {H3 : Hp}, Ex H2 H3 → Ev (tOp (rIxT K) (tVar 1) (tC (.int 2))) [some (.ref a), some (.ref q), some (.ref p)] H3 (.str l) := fun e => ev_ixT (v := .str l) (ev_var rfl) ev_c (st_of ((e12.trans e) _ _ hq)) (at_nat (n := 2) rfl)
    refine s_retC (c_if (b := decide (l = sea)) (et_test (ev_eqS (hl2 (Ex.refl H2)) ev_c rfl)) (fun h H3 e3 => ?_) (fun h H3 e3 => ?_))
    · refine (ev_var (v := .ref p) rfl) H3 (Ex.refl H3) _ fun H4 e4 => k p H4 (fresh_back e1 np) (e12.trans (e3.trans e4)) ?_
      unfold way
      rw [if_pos (of_decide_eq_true h)]
      exact (e3.trans e4) _ _ hp
    · have hs : l ≠ sea := of_decide_eq_false h
      have hyc : l ∈ course sea rows i := hl.resolve_left hs
      obtain ⟨pre, post, ec, ei, eo⟩ := take_idx hyc
      have hj : (course sea rows i)[pre.length]? = some l := by rw [ec]; simp
      have hno : ∀ m, m < pre.length → (course sea rows i)[m]? ≠ some l := fun m hm e => by
        rw [ec, List.getElem?_append_left hm] at e
        exact eo (List.mem_of_getElem? e)
      refine (el_sl (lo := none) (hi := some ((pre.length + 1 : Nat) : Int)) (ev_var (v := .ref p) rfl) eo_none (eo_some ?_) (sq_of (e3 _ _ hp))) H3 (Ex.refl H3) _ fun p' H4 np' e4 hp' => k p' H4 (fresh_back (e12.trans e3) np') ((e12.trans e3).trans e4) ?_
      · rw [show ((pre.length + 1 : Nat) : Int) = (pre.length : Int) + 1 by omega]
        exact ev_add (ev_index (ev_var rfl) (hl2 e3) (e3 _ _ hp) hj hno) ev_c
      · rw [hp', cutV_to, ← List.map_take]
        unfold way
        rw [if_neg hs, ei]
abbrev nLMeets : List Str := ["_law_ways", "_law_one", "_law_other", "_law_weir"]
theorem scLMeets : FnScope nLMeets ["_law_ways", "_law_one", "_law_other"] (defScope sLMeets) := ⟨rfl, rfl, rfl, by decide +kernel, rfl, by decide +kernel, by decide +kernel⟩
theorem ok_lMeets (T : Txt K mg A) : FnOk P w K mg base CX0 1 A.fLMeets A.dLMeets ["_law_ways", "_law_one", "_law_other"] spLMeets := by
  refine T.fnLMeets.ok scLMeets (fun vs H Q E h => ?_) (fun cdv AA outer s H vs Q E hr h => ?_)
  · obtain ⟨d, x, y, rows, rts, rfl, _⟩ := h
    rfl
  · obtain ⟨d, x, y, rows, rts, rfl, hW, hrok, hok, hx, hy, k⟩ := h
    have hu := hu_of hr
    have hm := hrok.most
    refine ⟨_, pss_one (ps_ret (pe_callB (cr_any rfl) (by rfl) T.b_any (by decide +kernel) (pa_cons
      (pe_lc (own := [("_law_weir", 3)]) (g := gName 3) (tt := tYes) (te := tOp (rIn K false) (tVar 3) (tDGet (tVar 0) (tVar 2))) rfl scLMeets.nd (pi_list (pe_dget hu (pv 0) (pv 1) (fun _ _ => rfl))) (blkOk_by (own := [("_law_weir", 3)]) (N := nLMeets) (sc := defScope sLMeets) (by decide +kernel))
        (fun _ _ _ _ _ => pg_name (i := 3) scLMeets.nd rfl (Or.inl rfl)) (fun _ _ _ _ _ => pts_nil) (fun _ _ _ _ _ => pe_cmpR op_in_seq (pv 3) (pe_dget hu (pv 0) (pv 2) (fun _ _ => rfl)) rfl)) pa_nil))), ?_⟩
    refine s_ret (ev_anyc (wyS rows rts x) (fun w => decide (w ∈ wyS rows rts y)) (src_len (src_listP ((ep_ways (ev_var (v := .ref d) rfl) (ev_var (v := .str x) rfl) hW hx).imp fun v H' _ ⟨p, z1, z2⟩ => ⟨p, z1, sq_of z2⟩)) (by simp)) (by have := wyS_len hrok.good hok.good hx; omega) (fun i wx v H3 hri e3 hv => ?_) rfl) k
    have := item_str hv hri
    subst this
    exact ⟨_, tgt_name rfl, ev_inLP (ev_var rfl) ((ep_ways (ev_var (v := .ref d) rfl) (ev_var (v := .str y) rfl) (hW.ex e3) hy).imp fun v H' _ ⟨p, z1, z2⟩ => ⟨p, z1, sq_of z2⟩) rfl⟩
end
end Wk

/-! the law's removal, fullest -/
namespace Wk
open PySem PySem.Spec PyProof.Rows L2 Evl LamX TL
section
variable {K : PySem.W.Frag} {σ : L2.St} {H : Hp} {ta tb te : TE} {D : Ends} {tu tz : TS}
/-- range(n, 0, -1) -/
theorem q_forDn {ta : TA} {j n : Nat} (h : EvA ta σ H [.int (n : Int), .int 0, .int (-1)]) (hn : n ≤ 100000) (Pv : Nat → L2.St → Hp → Prop) (h0 : ∀ H1, Ex H H1 → Pv 0 σ H1)
    (hs : ∀ (i : Nat) σ' H', i < n → Pv i σ' H' → tu { D with nx := Pv (i + 1), ct := Pv (i + 1), bk := tz D } (σ'.set j (some (.int ((n - i : Nat) : Int)))) H') (hd : ∀ σ' H', Pv n σ' H' → tz D σ' H') : tSeq (tFor (iRng3 ta) (gName j) tu) tz D σ H :=
  h H (Ex.refl H) _ fun H1 e1 => ⟨n, 0, -1, n, rfl, by
    have := RgC.neg (i := (n : Int)) (j := 0) (by omega) (by omega) (by omega) (by omega)
    rw [show ((n : Int) - 0).toNat = n by omega] at this
    exact this, for_it (D := { D with nx := tz D }) (walk_rangeC (lo := (n : Int)) (c := -1) (n := n)) Pv (h0 H1 e1) (fun _ _ _ _ _ => trivial) (fun i x σ' H' H2 hi p y => by
      obtain ⟨rfl, y2⟩ := y
      have y2 : x = V.int ((n : Int) + (i : Int) * (-1)) := y2
      have e : (n : Int) + (i : Int) * (-1) = ((n - i : Nat) : Int) := by omega
      rw [e] at y2
      subst y2
      exact hs i σ' H2 hi p) hd⟩
theorem el_cat {l : Addr} {xs ys : List V} (ha : Ev ta σ H (.ref l)) (hl : H l = some (.lst xs)) (hb : EvL tb σ H ys) (hz : xs.length + ys.length ≤ 100000) : EvL (tOp rCat ta tb) σ H (xs ++ ys) := fun H1 e1 Q q =>
  ha H1 e1 _ fun H2 e2 => hb H2 (e1.trans e2) _ fun p H3 np e3 hp => ⟨l, p, xs, ys, rfl, rfl, (e1.trans (e2.trans e3)) _ _ hl, hp, sz_of hz, fun p' np' => q p' _ (fresh_back (e2.trans e3) np') ((e2.trans e3).trans (Ex.new np')) upd_same⟩
/-- the keys of the ways -/
theorem src_ways {d : Addr} {rows : List (Str × Str)} {rts : List (Str × Str × Str)} (h : Ev te σ H (.ref d)) (hW : WaysAt H d rows rts) : Src (iKeys te) σ H (nms rts).length (fun i x _ => ∃ n, (nms rts)[i]? = some n ∧ x = .str n) := by
  obtain ⟨o, kvs, h1, h2, _⟩ := hW
  have hl : kvs.length = (nms rts).length := by
    have := congrArg List.length h2
    rw [List.length_map, List.length_map] at this
    exact this
  have hs := src_keys h h1
  rw [hl] at hs
  intro H1 e R q
  refine hs H1 e R fun J H2 G e2 gm g w => q J H2 G e2 gm g (walk_imp w fun i H x H' ⟨eX, k, v, hk, ex⟩ => ⟨eX, ?_⟩)
  have := congrArg (fun l => l[i]?) h2
  simp only [List.getElem?_map, hk, Option.map_some] at this
  cases hn : (nms rts)[i]? with
  | none => rw [hn] at this; cases this
  | some n =>
    rw [hn] at this
    have hk : k = Sum.inr n := Option.some.inj this
    subst hk
    exact ⟨n, hn, ex⟩
theorem el_course {a : Addr} {x : Str} {rows : List (Str × Str)} {E : XK} (ha : Ev ta σ H (.ref a)) (hb : Ev tb σ H (.str x)) (hR : RowsAt H a rows) (hok : RiverOk rows) (hx : x ∈ wns rows) : EvL (tCall spLCourse [] E (tCons ta (tCons tb tNil))) σ H ((course sea rows x).map V.str) := fun H1 e1 Q q =>
  c_call2 (ha.mono e1) (hb.mono e1) fun H2 e2 => ⟨a, x, rows, rfl, hR.ex (e1.trans e2), hok, hx, fun p H3 np e3 hp => q p H3 (fresh_back e2 np) (e2.trans e3) hp⟩
theorem lw_weir {rows : List (Str × Str)} {rts : List (Str × Str × Str)} (hrok : RiverOk rows) (hok : RightsOk rows rts) {n : Str} (hn : n ∈ nms rts) : lwS rows rts n ∈ wns rows := wy_weir hrok.good hok.good hn _ (lw_in hrok.good hok.good hn)
/-- ways[n][-1] -/
theorem ev_wlast {d : Addr} {n : Str} {rows : List (Str × Str)} {rts : List (Str × Str × Str)} (ha : Ev ta σ H (.ref d)) (hb : Ev tb σ H (.str n)) (hW : WaysAt H d rows rts) (hrok : RiverOk rows) (hok : RightsOk rows rts) (hn : n ∈ nms rts) :
    Ev (tOp (rIxL K) (tDGet ta tb) (tUn (rU fun i => .int (-i)) (tC (.int 1)))) σ H (.str (lwS rows rts n)) := by
  obtain ⟨i, pre, z, post, _, e1, _, e3⟩ := wy_cut hrok.good hok.good hn
  refine ev_ixLP (xs := (wyS rows rts n).map V.str) (i := -1) ((ep_ways ha hb hW hn).imp fun v H' _ ⟨p, z1, z2⟩ => ⟨p, z1, sq_of z2⟩) (ev_un ev_c ru_neg) ?_
  unfold wyS lwS
  rw [e1, e3, List.map_append]
  exact at_last
end
def spLRemoval : Sp := fun vs H Q _ => ∃ (a d : Addr) (rows : List (Str × Str)) (rts : List (Str × Str × Str)), vs = [.ref a, .ref d] ∧ RowsAt H a rows ∧ WaysAt H d rows rts ∧ RiverOk rows ∧ RightsOk rows rts ∧ ∀ p H2, H p = none → Ex H H2 → H2 p = some (.lst ((remS rows rts).map V.str)) → Q (.ref p) H2
def spLFullest : Sp := fun vs H Q _ => ∃ (a d : Addr) (rows : List (Str × Str)) (rts : List (Str × Str × Str)), vs = [.ref a, .ref d] ∧ RowsAt H a rows ∧ WaysAt H d rows rts ∧ RiverOk rows ∧ RightsOk rows rts ∧ RetP (IsP (bestOf rows rts) (pass (wyS rows rts) (nms rts) (bestOf rows rts))) H Q
theorem remL_len {dep : Str → Nat} {ns : List Str} {n : Nat} {i : Nat} (hi : i ≤ n) (h : ∀ x ∈ ns, 1 ≤ dep x ∧ dep x ≤ n) : (remL dep ns n i).length ≤ ns.length := by
  have hp : (remL dep ns n n).Perm ns := by
    rw [rem_eq h]
    exact remP_perm
  have key : ∀ {j k : Nat}, j ≤ k → (remL dep ns n j).length ≤ (remL dep ns n k).length := by
    intro j k hjk
    induction hjk with
    | refl => exact Nat.le_refl _
    | step _ ih =>
      refine Nat.le_trans ih ?_
      show _ ≤ (remL dep ns n _ ++ _).length
      rw [List.length_append]
      omega
  rw [← hp.length_eq]
  exact key hi
section
variable {P : Program} {w : World} {K : PySem.W.Frag} {mg : Str → Option Value} {base : Heap} {A : Adr}
abbrev nLRemoval : List Str := ["_law_rows", "_law_ways", "_law_found", "_law_depth", "_law_name"]
theorem scLRemoval : FnScope nLRemoval ["_law_rows", "_law_ways"] (defScope sLRemoval) := ⟨rfl, rfl, rfl, by decide +kernel, rfl, by decide +kernel, by decide +kernel⟩
theorem ok_lRemoval (T : Txt K mg A) : FnOk P w K mg base CX0 2 A.fLRemoval A.dLRemoval ["_law_rows", "_law_ways"] spLRemoval := by
  have GC : FnOk P w K mg base CX0 1 A.fLCourse A.dLCourse ["_law_rows", "_law_weir"] spLCourse := ok_lCourse T
  refine T.fnLRemoval.ok scLRemoval (fun vs H Q E h => ?_) (fun cdv AA outer s H vs Q E hr h => ?_)
  · obtain ⟨a, d, rows, rts, rfl, _⟩ := h
    rfl
  · obtain ⟨a, d, rows, rts, rfl, hR, hW, hrok, hok, k⟩ := h
    have hu := hu_of hr
    have hm := hok.most
    have hmr := hrok.most
    have hdp : ∀ x ∈ nms rts, 1 ≤ dpOf sea rows rts x ∧ dpOf sea rows rts x ≤ rows.length := fun x hx => dp_bounds hrok.good hok.good hx
    obtain ⟨ps, h1, h2⟩ := id hR
    have hpl : ps.length = rows.length := paired_len h2
    refine ⟨_, pss_cons (ps_set (i := 2) scLRemoval.nd rfl (.inl rfl) (pe_lst pa_nil))
      (pss_cons (ps_for PassesOwn.never rfl (pi_range3 (by rfl) T.b_range (pa_cons (pe_callB call_len_seq (by rfl) T.b_len PySem.boot_len (pa_cons (pv 0) pa_nil)) (pa_cons pe_int (pa_cons (pe_un un_neg pe_int) pa_nil)))) (pg_name (i := 3) scLRemoval.nd rfl (Or.inr rfl))
        (pss_one (ps_set (i := 2) scLRemoval.nd rfl (.inl rfl) (pe_op op_cat (pv 2)
          (pe_lc (own := [("_law_name", 4)]) (g := gName 4) (tt := tTest (tOp rEq (tCB (rLenS K) (tCons (tCall spLCourse [] E0 (tCons (tVar 0) (tCons (tOp (rIxL K) (tDGet (tVar 1) (tVar 4)) (tUn (rU fun i => .int (-i)) (tC (.int 1)))) tNil))) tNil)) (tVar 3))) (te := tVar 4) rfl scLRemoval.nd (pi_keys (pv 1)) (blkOk_by (own := [("_law_name", 4)]) (N := nLRemoval) (sc := defScope sLRemoval) (by decide +kernel))
            (fun _ _ _ _ _ => pg_name (i := 4) scLRemoval.nd rfl (Or.inl rfl))
            (fun _ _ _ _ _ => pts_one (pt_cmpR op_eq (pe_callB call_len_seq (by rfl) T.b_len PySem.boot_len (pa_cons (pe_call GC hr rfl T.mgLCourse T.fnLCourse.kp T.bdLCourse .nil pass0 (pa_cons (pv 0) (pa_cons (pe_ix ix_list (pe_dget hu (pv 1) (pv 4) (fun _ _ => rfl)) (pe_un un_neg pe_int) (fun _ _ => rfl)) pa_nil))) pa_nil)) (pv 3) (nomark _)))
            (fun _ _ _ _ _ => pv 4))))))
      (pss_one (ps_ret (pv 2)))), ?_⟩
    refine q_asgL (el_lst ea_nil (by simp)) fun l H0 nl e0 hl => ?_
    refine q_forDn (n := rows.length) (ea_cons (ev_lenP ((ep_of (ev_var (v := .ref a) rfl)).imp fun v H' e z => ⟨a, ps.map V.ref, z, .inl (sq_of ((e0.trans e) _ _ h1)), by rw [List.length_map, hpl]⟩)) (ea_cons ev_c (ea_cons (ev_un ev_c ru_neg) ea_nil))) (by omega)
      (fun i σ' H' => ∃ (q : Addr) (v3 : Option V), σ' = [some (.ref a), some (.ref d), some (.ref q), v3, none] ∧ Ex H H' ∧ H q = none ∧ H' q = some (.lst ((remL (dpOf sea rows rts) (nms rts) rows.length i).map V.str)))
      (fun H1 e1 => ⟨l, none, rfl, e0.trans e1, nl, e1 _ _ hl⟩) ?_ ?_
    · rintro i σ' H' hi ⟨q, v3, rfl, e1, nq, hq⟩
      have hlen := remL_len (i := i) (Nat.le_of_lt hi) hdp
      rw [nms_len] at hlen
      have hL : EvL (tLc (iKeys (tVar 1)) (gName 4) (tTest (tOp rEq (tCB (rLenS K) (tCons (tCall spLCourse [] E0 (tCons (tVar 0) (tCons (tOp (rIxL K) (tDGet (tVar 1) (tVar 4)) (tUn (rU fun i => .int (-i)) (tC (.int 1)))) tNil))) tNil)) (tVar 3))) (tVar 4) [4])
          [some (.ref a), some (.ref d), some (.ref q), some (.int ((rows.length - i : Nat) : Int)), none] H' (((nms rts).filter fun x => decide (dpOf sea rows rts x = rows.length - i)).map V.str) := by
        refine lcV (nms rts) (fun x => decide (dpOf sea rows rts x = rows.length - i)) V.str (src_ways (ev_var rfl) (hW.ex e1)) (by rw [nms_len]; omega) (fun j n v H2 hn e2 hv => ?_)
        obtain ⟨n', hn', rfl⟩ := hv
        rw [hn] at hn'
        cases hn'
        have hnm : n ∈ nms rts := List.mem_of_getElem? hn
        have e12 := e1.trans e2
        refine ⟨_, tgt_name rfl, et_test (ev_eqI (ev_lenP (n := dpOf sea rows rts n) ((ep_l (el_course (ev_var (v := .ref a) rfl) (ev_wlast (ev_var (v := .ref d) rfl) (ev_var (v := .str n) rfl) (hW.ex e12) hrok hok hnm) (hR.ex e12) hrok (lw_weir hrok hok hnm))).imp fun v H' _ ⟨p, z1, z2⟩ => ⟨p, _, z1, .inl (sq_of z2), by rw [List.length_map]; rfl⟩)) (ev_var rfl) (by rw [decide_eq_decide]; omega)), fun _ => ev_var rfl⟩
      refine s_asgL (el_cat (ev_var rfl) hq hL (by rw [List.length_map, List.length_map]; have := List.length_filter_le (fun x => decide (dpOf sea rows rts x = rows.length - i)) (nms rts); rw [nms_len] at this; omega)) fun p H2 np e2 hp => ⟨p, _, rfl, e1.trans e2, fresh_back e1 np, ?_⟩
      rw [hp, ← List.map_append]
      rfl
    · rintro σ' H' ⟨q, v3, rfl, e1, nq, hq⟩
      refine s_ret (ev_var (v := .ref q) rfl) fun H2 e2 => k q H2 nq (e1.trans e2) ?_
      rw [e2 _ _ hq, rem_law hrok.good hok.good]
end
end Wk

/-! the law's fullest -/
namespace Wk
open PySem PySem.Spec PyProof.Rows L2 Evl LamX TL
section
variable {P : Program} {w : World} {K : PySem.W.Frag} {mg : Str → Option Value} {base : Heap} {A : Adr}
abbrev nLFullest : List Str := ["_law_rows", "_law_ways", "_law_found", "_law_weir", "_law_below", "_law_names_here", "_law_name"]
theorem scLFullest : FnScope nLFullest ["_law_rows", "_law_ways"] (defScope sLFullest) := ⟨rfl, rfl, rfl, by decide +kernel, rfl, by decide +kernel, by decide +kernel⟩
abbrev foldS (rows : List (Str × Str)) (rts : List (Str × Str × Str)) (i : Nat) : Str × List Str := ((wns rows).take i).foldl (stepL (wyS rows rts) (nms rts)) (w0Of rows, [])
theorem ok_lFullest (T : Txt K mg A) : FnOk P w K mg base CX0 1 A.fLFullest A.dLFullest ["_law_rows", "_law_ways"] spLFullest := by
  refine T.fnLFullest.ok scLFullest (fun vs H Q E h => ?_) (fun cdv AA outer s H vs Q E hr h => ?_)
  · obtain ⟨a, d, rows, rts, rfl, _⟩ := h
    rfl
  · obtain ⟨a, d, rows, rts, rfl, hR, hW, hrok, hok, k⟩ := h
    have hu := hu_of hr
    have hm := hok.most
    have hmr := hrok.most
    obtain ⟨ps, h1, h2⟩ := id hR
    have hpl : ps.length = rows.length := paired_len h2
    obtain ⟨ws, ews⟩ := w0_cons hrok
    refine ⟨_, pss_cons (ps_set (i := 2) scLFullest.nd rfl (.inl rfl) (pe_tup (pa_cons (pe_ix ix_tup (pe_ix ix_list (pv 0) pe_int (fun _ _ => rfl)) pe_int (fun _ _ => rfl)) (pa_cons (pe_tup pa_nil) pa_nil))))
      (pss_cons (ps_for PassesOwn.never rfl (pi_list (pv 0)) (pg_tup rfl (pgs_cons (pg_name (i := 3) scLFullest.nd rfl (.inr rfl)) (pgs_cons (pg_name (i := 4) scLFullest.nd rfl (.inl rfl)) pgs_nil)))
        (pss_cons (ps_set (i := 5) scLFullest.nd rfl (.inl rfl) (pe_callTy call_tuple_of (by rfl) T.b_tuple (by decide +kernel) (pa_cons
          (pe_lc (own := [("_law_name", 6)]) (g := gName 6) (tt := tTest (tOp (rIn K false) (tVar 3) (tDGet (tVar 1) (tVar 6)))) (te := tVar 6) rfl scLFullest.nd (pi_keys (pv 1)) (blkOk_by (own := [("_law_name", 6)]) (N := nLFullest) (sc := defScope sLFullest) (by decide +kernel))
            (fun _ _ _ _ _ => pg_name (i := 6) scLFullest.nd rfl (Or.inl rfl)) (fun _ _ _ _ _ => pts_one (pt_cmpR op_in_seq (pv 3) (pe_dget hu (pv 1) (pv 6) (fun _ _ => rfl)) rfl)) (fun _ _ _ _ _ => pv 6)) pa_nil)))
        (pss_one (ps_if (pt_cmpR op_gt (pe_callB call_len_seq (by rfl) T.b_len PySem.boot_len (pa_cons (pv 5) pa_nil)) (pe_callB call_len_seq (by rfl) T.b_len PySem.boot_len (pa_cons (pe_ix ix_tup (pv 2) pe_int (fun _ _ => rfl)) pa_nil)) (nomark _))
          (pss_one (ps_set (i := 2) scLFullest.nd rfl (.inl rfl) (pe_tup (pa_cons (pv 3) (pa_cons (pv 5) pa_nil))))) pss_nil))))
      (pss_one (ps_ret (pv 2)))), ?_⟩
    have hw0 : (wns rows)[0]? = some (w0Of rows) := by rw [ews]; rfl
    obtain ⟨p0, hp0, r0, hr0, hz0⟩ : ∃ p0, ps[0]? = some p0 ∧ ∃ r0, rows[0]? = some r0 ∧ H p0 = some (.tup [.str r0.1, .str r0.2]) := by
      cases hq : ps[0]? with
      | none =>
        rw [List.getElem?_eq_none_iff, hpl] at hq
        have := hrok.good.ne
        exact absurd (List.eq_nil_of_length_eq_zero (by omega)) this
      | some p0 =>
        obtain ⟨r0, e1, e2⟩ := paired_get h2 hq
        exact ⟨p0, rfl, r0, e1, e2⟩
    have er0 : r0.1 = w0Of rows := by
      unfold wns at hw0
      rw [List.getElem?_map, hr0] at hw0
      exact Option.some.inj hw0
    refine q_asgC (c_tup (c_two ?_))
    refine (ev_ixT (v := .str (w0Of rows)) (ev_ixL (v := .ref p0) (ev_var rfl) ev_c (sq_of h1) (at_nat (n := 0) (by rw [List.getElem?_map, hp0]; rfl))) ev_c (st_of hz0) (at_nat (n := 0) (by rw [← er0]; rfl))) H (Ex.refl H) _ fun H1 e1 => ?_
    refine (eu_tup ea_nil (by simp)) H1 (Ex.refl H1) _ fun q0 H2 nq0 e2 hq0 => ⟨sz_of (by simp), fun pp npp => ?_⟩
    have e12 := e1.trans e2
    refine q_forL (a := a) (xs := ps.map V.ref) (ev_var rfl) (sq_of ((e12.trans (Ex.new npp)) _ _ h1))
      (fun i σ' H' => ∃ (p : Addr) (v3 v4 v5 : Option V), σ' = [some (.ref a), some (.ref d), some (.ref p), v3, v4, v5, none] ∧ Ex H H' ∧ IsP (foldS rows rts i).1 (foldS rows rts i).2 (.ref p) H')
      (fun H3 e3 => ⟨pp, none, none, none, rfl, (e12.trans (Ex.new npp)).trans e3, pp, .ref q0, rfl, e3 _ _ upd_same, q0, rfl, .inl (e3 _ _ (by rw [upd_ne (ne_of_none hq0 npp)]; exact hq0))⟩) (fun i σ' H' _ ⟨_, _, _, _, _, e, _⟩ => sq_of (e _ _ h1)) ?_ ?_
    · rintro i x σ' H' hx ⟨p, v3, v4, v5, rfl, e3, hP⟩
      obtain ⟨p', rfl, hp'⟩ := refs_get hx
      obtain ⟨r, hri, hr2⟩ := paired_get h2 hp'
      have hwi : (wns rows)[i]? = some r.1 := by unfold wns; rw [List.getElem?_map, hri]; rfl
      have hfs : foldS rows rts (i + 1) = stepL (wyS rows rts) (nms rts) (foldS rows rts i) r.1 := by
        unfold foldS
        rw [take_snoc hwi, List.foldl_append]
        rfl
      rw [hfs]
      generalize foldS rows rts i = b at *
      refine g_pair (st_of (e3 _ _ hr2)) ?_
      have hL : EvL (tLc (iKeys (tVar 1)) (gName 6) (tTest (tOp (rIn K false) (tVar 3) (tDGet (tVar 1) (tVar 6)))) (tVar 6) [6]) [some (.ref a), some (.ref d), some (.ref p), some (.str r.1), some (.str r.2), v5, none] H' ((pass (wyS rows rts) (nms rts) r.1).map V.str) := by
        refine lcV (nms rts) (fun n => decide (r.1 ∈ wyS rows rts n)) V.str (src_ways (ev_var rfl) (hW.ex e3)) (by rw [nms_len]; omega) (fun j n v H2 hn e2 hv => ?_)
        obtain ⟨n', hn', rfl⟩ := hv
        rw [hn] at hn'
        cases hn'
        exact ⟨_, tgt_name rfl, et_test (ev_inLP (ev_var rfl) ((ep_ways (ev_var (v := .ref d) rfl) (ev_var (v := .str n) rfl) (hW.ex (e3.trans e2)) (List.mem_of_getElem? hn)).imp fun v H' _ ⟨p, z1, z2⟩ => ⟨p, z1, sq_of z2⟩) rfl), fun _ => ev_var rfl⟩
      refine q_asgU (eu_tupOf hL) fun t H4 nt e4 ht => ?_
      have e34 := e3.trans e4
      obtain ⟨pq, q, epq, hpq, hT⟩ := hP.ex e4
      cases epq
      have hc : EvT (tTest (tOp (rI0 fun i j => .bl (decide (j < i))) (tCB (rLenS K) (tCons (tVar 5) tNil)) (tCB (rLenS K) (tCons (tOp (rIxT K) (tVar 2) (tC (.int 1))) tNil)))) [some (.ref a), some (.ref d), some (.ref p), some (.str r.1), some (.str r.2), some (.ref t), none] H4 (decide (b.2.length < (pass (wyS rows rts) (nms rts) r.1).length)) :=
        et_test (ev_cmpI (f := fun i j => decide (j < i)) (ev_lenP (n := (pass (wyS rows rts) (nms rts) r.1).length) ((ep_of (ev_var (v := .ref t) rfl)).imp fun v H' e z => ⟨t, _, z, .inr (st_of (e _ _ ht)), by simp⟩)) (ev_lenP (n := b.2.length) ((ep_of (ev_ixT (v := q) (ev_var rfl) ev_c (st_of hpq) (at_nat (n := 1) rfl))).imp fun v H' e z => by
          subst z
          obtain ⟨q', z1, z2⟩ := (hT.ex e).sq (K := K)
          exact ⟨q', _, z1, .inr z2, by simp⟩)) (by rw [decide_eq_decide]; omega))
      by_cases hlt : b.2.length < (pass (wyS rows rts) (nms rts) r.1).length
      · refine s_when (b := true) (et_is hc (decide_eq_true hlt)) (fun _ H5 e5 => ?_) (fun h => nomatch h)
        refine s_asgU (eu_tup (ea_cons (ev_var (v := .str r.1) rfl) (ea_cons (ev_var (v := .ref t) rfl) ea_nil)) (by simp)) fun p2 H6 n6 e6 h6 => ⟨p2, _, _, _, rfl, e34.trans (e5.trans e6), ?_⟩
        unfold stepL
        rw [if_pos hlt]
        exact ⟨p2, .ref t, rfl, h6, t, rfl, .inl ((e5.trans e6) _ _ ht)⟩
      · refine s_when (b := false) (et_is hc (decide_eq_false hlt)) (fun h => nomatch h) (fun _ H5 e5 => ⟨p, _, _, _, rfl, e34.trans e5, ?_⟩)
        unfold stepL
        rw [if_neg hlt]
        exact (hP.ex e4).ex e5
    · rintro σ' H' ⟨p, v3, v4, v5, rfl, e3, hP⟩
      have hf : foldS rows rts (ps.map V.ref).length = (bestOf rows rts, pass (wyS rows rts) (nms rts) (bestOf rows rts)) := by
        unfold foldS bestOf
        rw [List.length_map, hpl, List.take_of_length_le (by unfold wns; simp), ews]
        exact best_law _ _
      rw [hf] at hP
      exact s_ret (ev_var (v := .ref p) rfl) fun H4 e4 => k _ H4 (e3.trans e4) (hP.ex e4)
end
end Wk

/-! enumerate(tuple) -/
namespace Wk
open PySem PySem.Spec PyProof.Rows L2 Evl LamX TL
open Sem (wp)
theorem meets_enumB1 {v : Value} {o : Obj} {H : Heap → Prop} (B : Begins v o H) :
    Meets (Builtin.«enumerate.__new__» ⟨[.type "enumerate", v], []⟩) (fun _ R s => H s.heap ∧
      R (.ok (.ret (.ref (s.heap.push o).objs.size))) { s with heap := (s.heap.push o).push { cls := .type "enumerate", data := .fields #[.none, .bool false, .ref s.heap.objs.size, rawInt 0, .none, .none] } }) :=
  .of_wp fun prog w A R s h => by
    obtain ⟨hp, g, d, tk, os⟩ := s; obtain ⟨h1, h⟩ := h
    have hsub := sub_enumerate
    have q1 : ∀ {A' : Around} {E : Value → Shared → Prop} {Q : Value → Shared → Prop}, Q (.ref hp.objs.size) ⟨hp.push o, g, d, tk, os⟩ → wpAny (model prog w) A' (pyIter v) Q E ⟨hp, g, d, tk, os⟩ :=
      fun q => B.iter prog w _ _ ⟨hp, g, d, tk, os⟩ _ h1 q
    wp_walk using q1
    refine wpAny_stack_any fun st => wpAny_pure ?_
    split
    · rename_i c _ _ _ _ _
      cases (c == Value.type "enumerate")
      · wp_walk using q1
        exact ⟨_, rfl, h⟩
      · wp_walk using q1
        exact ⟨_, rfl, h⟩
    · wp_walk using q1
      exact ⟨_, rfl, h⟩
theorem call_enumB1 {prog : Program} {w : World} {A : Around} {E : Value → Shared → Prop} {s : Shared} {v : Value} {o : Obj} {H : Heap → Prop} {Q : Value → Shared → Prop} (B : Begins v o H) (h1 : H s.heap)
    (h : ∀ h', IsEnum h' (s.heap.objs.size + 1) s.heap.objs.size 0 .none → h'.get? s.heap.objs.size = some o → h'.objs.size = s.heap.objs.size + 2 →
      (∀ b o, s.heap.get? b = some o → h'.get? b = some o) → Q (.ref (s.heap.objs.size + 1)) { s with heap := h' }) :
    wpAny (model prog w) A (call (.type "enumerate") [v]) Q E s := by
  refine callType_new F.called_enumerate (by decide) (F.typeCall_enumerate_1 _) (F.newCall_enumerate_1 _) (fun obj => F.args_object_init_2 obj _) F.entry_enumerate_new
    (meets_enumB1 B) ⟨h1, ?_⟩
  have hz : (s.heap.push o).objs.size = s.heap.objs.size + 1 := Heap.size_push ..
  show _ ∧ _
  rw [hz]
  have he : IsEnum ((s.heap.push o).push { cls := .type "enumerate", data := .fields #[.none, .bool false, .ref s.heap.objs.size, rawInt 0, .none, .none] }) (s.heap.objs.size + 1) s.heap.objs.size 0 .none := by
    have := Heap.get?_push_size (s.heap.push o) (o := { cls := .type "enumerate", data := .fields #[.none, .bool false, .ref s.heap.objs.size, rawInt 0, .none, .none] }) rfl
    rw [hz] at this; exact this
  refine ⟨⟨_, he, rfl⟩, h _ he (Heap.get?_push_of_some _ (Heap.get?_push_size _ B.free)) (by rw [Heap.size_push, hz]) fun b o x => Heap.get?_push_of_some _ (Heap.get?_push_of_some _ x)⟩
/-- the tuple at a, each item in a new pair -/
def IteT (K : PySem.W.Frag) (a : Addr) : It :=
  ⟨fun i H => ∃ (xs : List V) (x : V), SqT K H a xs ∧ xs[i]? = some x, fun i H v H' => ∃ T x, v = .ref T ∧ H T = none ∧ H' = upd H T (.tup [.int (i : Nat), x]) ∧ ∀ xs, SqT K H a xs → xs[i]? = some x, fun i H => ∃ xs : List V, SqT K H a xs ∧ xs.length = i⟩
theorem tup_ne {h : Heap} {a b : Addr} {its : Array Value} {o : Obj} (p : IsTup h a its) (e : h.get? b = some o) (hc : o.cls ≠ .type "tuple") : a ≠ b := fun z => by
  obtain ⟨o', e', c', _⟩ := p
  rw [z, e] at e'
  cases e'
  exact hc c'
theorem turn_enumT {P : Program} {w : World} {K : PySem.W.Frag} {elts : List Expr} {kk : Nat} {tpos : Pos} (a e it : Addr) :
    Turn P w K (.Tuple elts kk tpos) (IteT K a) [e, it] e (fun i h => (∃ old, IsEnum h e it ((i : Nat) : Int) old) ∧ h.IsTupleIter it a i ∧ e ≠ it) where
  mem := by simp
  obj := fun i h st b hb => by
    obtain ⟨⟨old, he⟩, ⟨o, ho, hc, hd⟩, _⟩ := st
    have e' : b = e ∨ b = it := by simpa using hb
    rcases e' with z | z
    · rw [z]; exact ⟨_, he, fun v q => nomatch q⟩
    · rw [z]; exact ⟨o, ho, fun v q => by rw [hd] at q; cases q⟩
  keep := fun i h h' st k => let ⟨⟨old, he⟩, hi, hne⟩ := st; ⟨⟨old, k e (by simp) _ he⟩, hi.at fun o q => k it (by simp) o q, hne⟩
  item := by
    intro X hP hw hK hc i pins s σ H E I hf st hg
    subst hP hw hK
    obtain ⟨⟨old, he⟩, hit, hne⟩ := st
    obtain ⟨xs, x, hq, hx⟩ := hg
    obtain ⟨its, rv, p, hz⟩ := I.tuple hq
    obtain ⟨u, hu, ru⟩ := rv.get hx
    have hel : e < s.heap.objs.size := Heap.lt_size he
    have hil : it < s.heap.objs.size := by obtain ⟨_, q, _⟩ := hit; exact Heap.lt_size q
    have hait : a ≠ it := by
      obtain ⟨oi, q1, q2, _⟩ := id hit
      exact tup_ne p q1 (by rw [q2]; decide)
    have hae : a ≠ e := tup_ne p he (show Value.type "enumerate" ≠ .type "tuple" by decide)
    have hlt : i < its.toArray.size := by
      have := (List.getElem?_eq_some_iff.mp hu).1
      simpa using this
    refine wpAny_pyNext_enum_itemD (Draws.tuple (prog := X.prog) (w := X.w) (A := X.A.in1) (I.ok.hd hc) it a hait its.toArray) he ⟨hit, p⟩ hlt hne (by simp; exact ⟨hne, Ne.symm hae⟩) fun y h' tk hy ho hst' hT hsz hk => ?_
    have hyu : y = u := by
      have h1 : its.toArray[i]? = some y := hy
      rw [List.getElem?_toArray, hu] at h1
      exact (Option.some.inj h1).symm
    subst hyu
    obtain ⟨hit', _⟩ := hst'
    refine ⟨_, rfl, wpAny_letOwnedTupleGo_enum (s := { s with heap := h', toks := tk + 1 }) ho fun h'' he' sb => ?_⟩
    have hT2 : h''.get? s.heap.objs.size = some { cls := .type "tuple", data := .seq #[.int i tk, y] } := (sb.2 _ (Nat.ne_of_gt hel)).trans hT
    have new : ObjOk X.prog X.w (upd H s.heap.objs.size (.tup [.int (i : Nat), x])) h'' s.heap.objs.size (.tup [.int (i : Nat), x]) :=
      ⟨by show 2 ≤ sizeLine; decide, [.int i tk, y], .cons ⟨_, rfl⟩ (.cons ru .nil), ⟨_, hT2, rfl, _, rfl⟩⟩
    have I1 : Inv X pins σ (upd H s.heap.objs.size (.tup [.int (i : Nat), x])) { s with heap := h'', toks := tk + 1 } :=
      I.turnedNew (ch := [e, it]) (fun b ob hb q => (sb.2 b (fun z => hb (by simp [z]))).trans (hk b ob (fun z => hb (by simp [z])) (fun z => hb (by simp [z])) q)) hf (Nat.le_refl _) new
    refine ⟨.ref s.heap.objs.size, _, I1, rfl, ⟨_, x, rfl, I.hok.fresh (Nat.le_refl _), rfl, fun ys hy => by rw [I.tuple_inj hy hq]; exact hx⟩, ⟨⟨y, ?_⟩, hit'.at fun o q => (sb.2 it (Ne.symm hne)).trans q, hne⟩, fun b hb => ?_⟩
    · have e1 : ((i + 1 : Nat) : Int) = (i : Int) + 1 := by omega
      rw [e1]; exact he'
    · have hb' : b < s.heap.objs.size := by
        have e' : b = e ∨ b = it := by simpa using hb
        rcases e' with z | z
        · rw [z]; exact hel
        · rw [z]; exact hil
      rw [upd_ne (Nat.ne_of_lt hb')]
      exact (hf b hb).1
  done := by
    intro X hP hw hK hc i pins s σ H E I hf st hg
    subst hP hw hK
    obtain ⟨⟨old, he⟩, hit, hne⟩ := st
    obtain ⟨xs, hq, hx⟩ := hg
    obtain ⟨its, rv, p, hz⟩ := I.tuple hq
    obtain ⟨f0, f1, f2, f3, f4, f5⟩ := hf it (by simp)
    have hl := rv.length
    have hait : a ≠ it := by
      obtain ⟨oi, q1, q2, _⟩ := id hit
      exact tup_ne p q1 (by rw [q2]; decide)
    have hi : i = its.toArray.size := by simp; omega
    subst hi
    exact wpAny_pyNext_enum_endD (Draws.tuple (prog := X.prog) (w := X.w) (A := X.A.in1) (I.ok.hd hc) it a hait its.toArray) he ⟨hit, p⟩ fun h' eb => ⟨rfl, I.turned (t' := s.toks) (fun b o hb q => eb b o hb q) f0 f1 f3 f4 f5⟩
  self := fun A i s Q E st h => let ⟨⟨_, he⟩, _⟩ := st; wpAny_pyIter_enum he h
def iEnumT (K : PySem.W.Frag) (ta : TA) : TI := fun σ H R => ta σ H fun vs H1 => ∃ a xs, vs = [.ref a] ∧ SqT K H1 a xs ∧ R (IteT K a) H1
theorem pi_enumT {X : Cx} {e : Expr} {ta : TA} {p pos tpos : Pos} {elts : List Expr} {kk : Nat} (hg : Gl X "enumerate") (hm : X.mg "enumerate" = none) (ha : PA X [e] ta) (hs : starEach [e] X.env = [(false, eval e X.env)] := by rfl) :
    PI X (.Tuple elts kk tpos) (.Call (.Name "enumerate" p) [e] [] pos) (iEnumT X.K ta) := by
  refine ⟨fun pins s σ H R I h => ?_⟩
  refine Call_ (ld_blt I hg hm boot_enumerate (PyProof.Rows.callWith_type1 (thn (ha.run pos pins s σ H _ I h) fun us s1 ⟨vs, H1, I1, r1, q1⟩ => ?_) hs rfl))
  obtain ⟨a, xs, ex, hq, q⟩ := q1
  subst ex
  cases r1 with
  | cons r rr =>
    cases rr
    cases r
    obtain ⟨its, rv, p', hz⟩ := I1.tuple hq
    refine call_enumB1 (begins_tuple a its.toArray) p' fun h' he hit hsz hk => wpAny_pyIter_enum he ?_
    have I2 : Inv X pins σ H1 { s1 with heap := h' } := I1.kept (t' := s1.toks) hk
    refine ⟨s1.heap.objs.size + 1, [s1.heap.objs.size + 1, s1.heap.objs.size], _, _, H1, rfl, I2, turn_enumT a (s1.heap.objs.size + 1) s1.heap.objs.size, ⟨⟨.none, he⟩, ⟨_, hit, rfl, rfl⟩, Nat.succ_ne_self _⟩, fun b hb => ?_, q⟩
    have e' : b = s1.heap.objs.size + 1 ∨ b = s1.heap.objs.size := by simpa using hb
    have hle : s1.heap.objs.size ≤ b := by
      rcases e' with z | z
      · rw [z]; exact Nat.le_add_right _ _
      · rw [z]; exact Nat.le_refl _
    exact I1.fpOk hle (I1.hok.fresh hle)
theorem walk_enumT {K : PySem.W.Frag} {a : Addr} {xs : List V} : Walk (IteT K a) xs.length (fun H => SqT K H a xs) (YPair (fun i => some (.int (i : Nat))) (fun i => xs[i]?)) :=
  ⟨fun i H hi q => ⟨xs, xs[i], q, List.getElem?_eq_getElem hi⟩, fun H q => ⟨xs, q, rfl⟩, fun i H v H' hi q y => by
    obtain ⟨T, x, h1, h2, h3, h4⟩ := y
    exact ⟨T, _, x, h1, h2, h3, rfl, h4 xs q⟩⟩
/-- for i, x in enumerate(tuple that stands) -/
theorem q_forET {K : PySem.W.Frag} {g : TG} {tu tz : TS} {D : Ends} {σ : L2.St} {H : Hp} {ta : TA} {a : Addr} {xs : List V} (h : EvA ta σ H [.ref a]) (hx : SqT K H a xs) (Pv : Nat → L2.St → Hp → Prop) (h0 : ∀ H1, Ex H H1 → Pv 0 σ H1) (hl : ∀ i σ' H', i ≤ xs.length → Pv i σ' H' → SqT K H' a xs)
    (hs : ∀ i x σ' H' T, xs[i]? = some x → Pv i σ' H' → H' T = none → g (.ref T) σ' (upd H' T (.tup [.int (i : Nat), x])) fun σ2 H3 => tu { D with nx := Pv (i + 1), ct := Pv (i + 1), bk := tz D } σ2 H3) (hd : ∀ σ' H', Pv xs.length σ' H' → tz D σ' H') : tSeq (tFor (iEnumT K ta) g tu) tz D σ H :=
  h H (Ex.refl H) _ fun H1 e1 => ⟨a, xs, rfl, ex_t e1 hx, for_it (D := { D with nx := tz D }) (walk_enumT (K := K) (a := a) (xs := xs)) Pv (h0 H1 e1) hl (fun i x σ' H' H2 hi p y => by
    obtain ⟨T, z, w, rfl, h2, rfl, h4, h5⟩ := y
    cases h4
    exact hs i w σ' H' T h5 p h2) hd⟩
end Wk

/-! the law's turns_right -/
namespace Wk
open PySem PySem.Spec PyProof.Rows L2 Evl LamX TL
def leS (a b : Str) : Prop := tl a ≤ tl b
theorem leS_of {a b : Str} (h : (!ltCps b.cps.toList a.cps.toList) = true) : leS a b := by
  rw [ltCps_eq] at h
  have h2 : ¬ (tl b < tl a) := by simpa using h
  exact List.not_lt.mp h2
theorem rising_pw : ∀ (l : List Str) (p : Str), risingS p l = true → (p :: l).Pairwise leS
  | [], p, _ => by simp
  | x :: r, p, h => by
    have h' : (!ltCps x.cps.toList p.cps.toList && risingS x r) = true := h
    rw [Bool.and_eq_true] at h'
    have h1 := leS_of h'.1
    have h2 := rising_pw r x h'.2
    refine List.pairwise_cons.mpr ⟨fun y hy => ?_, h2⟩
    rcases List.mem_cons.mp hy with z | z
    · rw [z]; exact h1
    · exact List.le_trans h1 ((List.pairwise_cons.mp h2).1 y z)
theorem sorted_pw : ∀ {l : List Str}, sortedS l = true → l.Pairwise leS
  | [], _ => .nil
  | x :: r, h => rising_pw r x h
theorem sorted_uniq {l m : List Str} (h1 : sortedS l = true) (h2 : sortedS m = true) (p : l.Perm m) : l = m :=
  List.Perm.eq_of_pairwise (le := leS) (fun a b _ _ h k => ext_tl (List.le_antisymm h k)) (sorted_pw h1) (sorted_pw h2) p
theorem eqv_strs {ss : List Str} (h : ∀ s ∈ ss, IsNm s) : PyData.eqv (.list (ss.map PyData.str)) (.list (ss.map PyData.str)) = true := SeqAt.eqv_refl _ (by rw [PyData.canLay0]; exact canLay_strs h)
/-- a list of tuples of texts, as data -/
def ttD (ts : List (List Str)) : PyData := .list (ts.map fun t => .tuple (t.map PyData.str))
theorem ttD_lay : ∀ {ts : List (List Str)}, (∀ t ∈ ts, ∀ s ∈ t, IsNm s) → PyData.canLayAll0 (ts.map fun t => PyData.tuple (t.map PyData.str)) = true
  | [], _ => rfl
  | t :: ts, h => by
    rw [List.map_cons, PyData.canLayAll0, PyData.canLay0, canLay_strs (h t List.mem_cons_self), ttD_lay fun u hu => h u (List.mem_cons_of_mem _ hu)]
    rfl
theorem ttD_depth : ∀ (ts : List (List Str)), PyData.depthAll (ts.map fun t => PyData.tuple (t.map PyData.str)) ≤ 1
  | [] => by rw [List.map_nil, PyData.depthAll]; omega
  | t :: ts => by
    rw [List.map_cons, PyData.depthAll, PyData.depth, depth_strs]
    have := ttD_depth ts
    omega
theorem shaped_tt {ts : List (List Str)} (h : ∀ t ∈ ts, ∀ s ∈ t, IsNm s) : SeqAt.shaped (ttD ts) = true := by
  have := ttD_depth ts
  unfold SeqAt.shaped ttD
  rw [PyData.canLay0, ttD_lay h, PyData.depth]
  simp
  omega
theorem eqv_tt {ts : List (List Str)} (h : ∀ t ∈ ts, ∀ s ∈ t, IsNm s) : PyData.eqv (ttD ts) (ttD ts) = true := SeqAt.eqv_refl _ (by unfold ttD; rw [PyData.canLay0]; exact ttD_lay h)
theorem dp_tt {K : PySem.W.Frag} {H : Hp} : ∀ {qs : List Addr} {ts : List (List Str)}, Paired (fun q (t : List Str) => H q = some (.tup (t.map V.str))) qs ts → DpAll K H (qs.map V.ref) (ts.map fun t => PyData.tuple (t.map PyData.str))
  | _, _, .nil => .nil
  | _, _, .cons h t => .cons (dp_tup (st_of h)) (dp_tt t)
theorem TTAt.dp {K : PySem.W.Frag} {H : Hp} {a : Addr} {ts : List (List Str)} (h : TTAt H a ts) : Dp K H (.ref a) (ttD ts) := by
  obtain ⟨qs, h1, h2⟩ := h
  exact .lst (sq_of h1) (dp_tt h2)
section
variable {K : PySem.W.Frag} {σ : L2.St} {H : Hp} {ta tb te : TE} {D : Ends} {tu tz : TS} {A : Adr} {P : V → Hp → Prop}
theorem q_asgN {i : Nat} (h : EvN A te σ H P) (k : ∀ v H1, ExtN H H1 → Tabs (tabs A) H1 → P v H1 → tz D (σ.set i (some v)) H1) : tSeq (tAsg te (gName i)) tz D σ H := h _ k
theorem el_sorted {xs zs : List Str} {ta : TE} (h : EvL ta σ H (xs.map V.str)) (hz : xs.length < 64) (hs : ∀ ys : List Str, ys.Perm xs → sortedS ys = true → ys = zs) : EvL (tCB (rSortedS K) (tCons ta tNil)) σ H (zs.map V.str) := fun H1 e Q q =>
  h H1 e _ fun p H2 np e2 hp => ⟨p, xs, rfl, sq_of hp, hz, fun ys p' hy hs' np' => by
    have := hs ys hy hs'
    subst this
    exact q p' _ (fresh_back e2 np') (e2.trans (Ex.new np')) upd_same⟩
theorem el_sortedV {a : Addr} {xs zs : List Str} {te : TE} (h : Ev te σ H (.ref a)) (hx : H a = some (.lst (xs.map V.str))) (hz : xs.length < 64) (hs : ∀ ys : List Str, ys.Perm xs → sortedS ys = true → ys = zs) : EvL (tCB (rSortedS K) (tCons te tNil)) σ H (zs.map V.str) := fun H1 e Q q =>
  h H1 e _ fun H2 e2 => ⟨a, xs, rfl, sq_of (e2 _ _ (e _ _ hx)), hz, fun ys p' hy hs' np' => by
    have := hs ys hy hs'
    subst this
    exact q p' _ (fresh_back e2 np') (e2.trans (Ex.new np')) upd_same⟩
theorem ev_meets {d : Addr} {x y : Str} {rows : List (Str × Str)} {rts : List (Str × Str × Str)} {E : XK} {tc : TE} (ha : Ev ta σ H (.ref d)) (hb : Ev tb σ H (.str x)) (hc : Ev tc σ H (.str y)) (hW : WaysAt H d rows rts) (hrok : RiverOk rows) (hok : RightsOk rows rts) (hx : x ∈ nms rts) (hy : y ∈ nms rts) :
    Ev (tCall spLMeets [] E (tCons ta (tCons tb (tCons tc tNil)))) σ H (.bl (meets (wyS rows rts) x y)) := fun H1 e1 Q q =>
  c_call3 (ha.mono e1) (hb.mono e1) (hc.mono e1) fun H2 e2 => ⟨d, x, y, rows, rts, rfl, hW.ex (e1.trans e2), hrok, hok, hx, hy, fun H3 e3 => q H3 (e2.trans e3)⟩
/-- t[i + 1:] -/
theorem eu_from {a : Addr} {xs : List V} {k : Nat} {t1 : TO} (h : Ev te σ H (.ref a)) (h1 : EvO t1 σ H (some ((k + 1 : Nat) : Int))) (hx : SqT K H a xs) (hk : k < xs.length) : EvU (tSl (rSlT K) te t1 tNoPart) σ H (xs.drop (k + 1)) := fun H1 e1 Q q =>
  h H1 e1 _ fun H2 e2 => h1 H2 (e1.trans e2) _ fun H3 e3 => eo_none H3 ((e1.trans e2).trans e3) _ fun H4 e4 => ⟨a, xs, rfl, ex_t (((e1.trans e2).trans e3).trans e4) hx, by
    rw [HT.sIx_nat]
    omega, fun p np => by
    rw [cutV_from]
    exact q p _ (fresh_back ((e2.trans e3).trans e4) np) (((e2.trans e3).trans e4).trans (Ex.new np)) upd_same⟩
end
section
variable {K : PySem.W.Frag} {σ : L2.St} {H : Hp} {ta tb te : TE}
/-- the pair's second item -/
theorem ep_ix1 {x : Str} {ss : List Str} (h : EvP te σ H (IsP x ss)) : EvP (tOp (rIxT K) te (tC (.int 1))) σ H (IsT ss) := fun H1 e Q q =>
  h H1 e _ fun v H2 e2 ⟨p, q', ev, hp, hT⟩ => (ev_c (σ := σ) (v := .int 1)) H2 (Ex.refl H2) _ fun H3 e3 => ⟨p, _, 1, q', ev, rfl, st_of (e3 _ _ hp), at_nat (n := 1) rfl, q q' H3 (e2.trans e3) (hT.ex e3)⟩
theorem el_rev {xs : List V} (h : EvL te σ H xs) : EvL (tRevL K te) σ H xs.reverse := fun H1 e Q q =>
  h H1 e _ fun p H2 np e2 hp => ⟨p, xs, rfl, sq_of hp, fun p' np' => q p' _ (fresh_back e2 np') (e2.trans (Ex.new np')) upd_same⟩
theorem el_removal {a d : Addr} {rows : List (Str × Str)} {rts : List (Str × Str × Str)} {E : XK} (ha : Ev ta σ H (.ref a)) (hb : Ev tb σ H (.ref d)) (hA : RowsAt H a rows) (hW : WaysAt H d rows rts) (hrok : RiverOk rows) (hok : RightsOk rows rts) :
    EvL (tCall spLRemoval [] E (tCons ta (tCons tb tNil))) σ H ((remS rows rts).map V.str) := fun H1 e1 Q q =>
  c_call2 (ha.mono e1) (hb.mono e1) fun H2 e2 => ⟨a, d, rows, rts, rfl, hA.ex (e1.trans e2), hW.ex (e1.trans e2), hrok, hok, fun p H3 np e3 hp => q p H3 (fresh_back e2 np) (e2.trans e3) hp⟩
theorem ep_lfull {a d : Addr} {rows : List (Str × Str)} {rts : List (Str × Str × Str)} {E : XK} (ha : Ev ta σ H (.ref a)) (hb : Ev tb σ H (.ref d)) (hA : RowsAt H a rows) (hW : WaysAt H d rows rts) (hrok : RiverOk rows) (hok : RightsOk rows rts) :
    EvP (tCall spLFullest [] E (tCons ta (tCons tb tNil))) σ H (IsP (bestOf rows rts) (pass (wyS rows rts) (nms rts) (bestOf rows rts))) := fun H1 e1 Q q =>
  c_call2 (ha.mono e1) (hb.mono e1) fun H2 e2 => ⟨a, d, rows, rts, rfl, hA.ex (e1.trans e2), hW.ex (e1.trans e2), hrok, hok, fun v H3 e3 hp => q v H3 (e2.trans e3) hp⟩
/-- list(ways) -/
theorem el_listW {d : Addr} {rows : List (Str × Str)} {rts : List (Str × Str × Str)} (h : Ev te σ H (.ref d)) (hW : WaysAt H d rows rts) : EvL (tCB (fun xs H Q => ∃ (a : Addr) (kvs : List (Key × V)), xs = [V.ref a] ∧ Rd H a (.dK kvs) ∧ ∀ p, H p = none → Q (.ref p) (upd H p (.lst (kvs.map fun kv => kV kv.1)))) (tCons te tNil)) σ H ((nms rts).map V.str) := fun H1 e Q q =>
  h H1 e _ fun H2 e2 => by
    obtain ⟨o, kvs, h1, h2, _⟩ := hW.ex (e.trans e2)
    refine ⟨d, kvs, rfl, .inr ⟨o, h1⟩, fun p np => q p _ (fresh_back e2 np) (e2.trans (Ex.new np)) ?_⟩
    rw [upd_same]
    congr 2
    have := congrArg (fun l => l.map kV) h2
    simp only [List.map_map] at this
    exact this
end
theorem told_nm {rows : List (Str × Str)} {rts : List (Str × Str × Str)} (hok : RightsOk rows rts) : ∀ t ∈ toldS rows rts, ∀ s ∈ t, IsNm s := fun t ht s hs =>
  right_nm hok ((told_perm hok.good).mem_iff.mp (List.mem_flatten.mpr ⟨t, ht, hs⟩))
theorem told_len40 {rows : List (Str × Str)} {rts : List (Str × Str × Str)} (hok : RightsOk rows rts) : (toldS rows rts).length ≤ 40 := by
  have : (toldS rows rts).length = (dealt sea rows rts).length := by unfold toldS told; rw [List.length_map]
  rw [this]
  refine Nat.le_trans (deal_len _) ?_
  rw [List.length_reverse]
  exact Nat.le_trans (Nat.le_of_eq (rem_len rows rts)) hok.most
def spLTurnsRight (A : Adr) : Sp := fun vs H Q _ => ∃ (p a d : Addr) (rows : List (Str × Str)) (rts : List (Str × Str × Str)), vs = [.ref p, .ref a, .ref d] ∧ RtsAt A H p rows rts ∧ RowsAt H a rows ∧ WaysAt H d rows rts ∧ RiverOk rows ∧ RightsOk rows rts ∧ Tabs (tabs A) H ∧ RetN A (fun v _ => v = .bl true) H Q
section
variable {P : Program} {w : World} {K : PySem.W.Frag} {mg : Str → Option Value} {base : Heap} {A : Adr}
abbrev nLTurn : List Str := ["_law_told", "_law_rows", "_law_ways", "_law_found", "_law_seen", "_law_turn", "_law_name", "_law_place", "_law_one", "_law_due", "_law_free", "_law_other", "_law_k"]
theorem scLTurn : FnScope nLTurn ["_law_told", "_law_rows", "_law_ways"] (defScope sLTurnsRight) := ⟨rfl, rfl, rfl, by decide +kernel, rfl, by decide +kernel, by decide +kernel⟩
/-- any([meets(ways, x, other) for other in xs]) -/
abbrev tAnyM (K : PySem.W.Frag) (wi : TI) (j : Nat) : TE := tCB (rAny K) (tCons (tLc wi (gName 11) tYes (tCall spLMeets [] E0 (tCons (tVar 2) (tCons (tVar j) (tCons (tVar 11) tNil)))) [11]) tNil)
theorem ok_lTurnsRight (T : Txt K mg A) (C : FunC K "removal_names" "removal_names" sRemNames A.fRemNames A.dRemNames A.cR0) (TB : TabB base mg A.cR0 A.pR0) : FnOk P w K mg base CX0 9 A.fLTurnsRight A.dLTurnsRight ["_law_told", "_law_rows", "_law_ways"] (spLTurnsRight A) := by
  have GT : FnOk P w K mg base CX0 8 A.fTurns A.dTurns ["rights"] (spTurns A) := ok_turns T C TB
  have GF : FnOk P w K mg base CX0 1 A.fLFullest A.dLFullest ["_law_rows", "_law_ways"] spLFullest := ok_lFullest T
  have GM : FnOk P w K mg base CX0 1 A.fLMeets A.dLMeets ["_law_ways", "_law_one", "_law_other"] spLMeets := ok_lMeets T
  have GR : FnOk P w K mg base CX0 2 A.fLRemoval A.dLRemoval ["_law_rows", "_law_ways"] spLRemoval := ok_lRemoval T
  refine T.fnLTurnsRight.ok scLTurn (fun vs H Q E h => ?_) (fun cdv AA outer s H vs Q E hr h => ?_)
  · obtain ⟨p, a, d, rows, rts, rfl, _⟩ := h
    rfl
  · obtain ⟨p, a, d, rows, rts, rfl, hR, hA, hW, hrok, hok, hT, k⟩ := h
    have hr1 : Room 1 _ := hr.mono (by decide)
    have hr2 : Room 2 _ := hr.mono (by decide)
    have hu64 := hr.units
    have hm := hok.most
    have R := hok.good
    refine ⟨_, pss_cons (ps_set (i := 3) scLTurn.nd rfl (.inl rfl) (pe_call GT hr rfl T.mgTurns T.fnTurns.kp T.bdTurns .nil pass0 (pa_cons (pv 0) pa_nil)))
      (pss_cons (ps_if (PW.pt (pw_or (pt_not (pt_val (pe_callB call_isi (by rfl) T.b_isinstance (by decide +kernel) (pa_cons (pv 3) (pa_cons (pe_bltn (v := .ty "list") (by rfl) T.b_list (by decide +kernel) rfl) pa_nil)))))
          (pw_or1 (pt_cmpR op_ne (pe_callB call_len_seq (by rfl) T.b_len PySem.boot_len (pa_cons (pv 3) pa_nil)) (pe_callB call_len_seq (by rfl) T.b_len PySem.boot_len (pa_cons (pe_ix ix_tup (pe_call GF hr1 rfl T.mgLFullest T.fnLFullest.kp T.bdLFullest .nil pass0 (pa_cons (pv 1) (pa_cons (pv 2) pa_nil))) pe_int (fun _ _ => rfl)) pa_nil)) (nomark _))))) (pss_one (ps_ret pe_bl)) pss_nil)
      (pss_cons (ps_set (i := 4) scLTurn.nd rfl (.inl rfl) (pe_lst pa_nil))
      (pss_cons (ps_for PassesOwn.never rfl (pi_list (pv 3)) (pg_name (i := 5) scLTurn.nd rfl (Or.inr rfl))
        (pss_cons (ps_if (PW.pt (pw_or (pt_not (pt_val (pe_callB call_isi (by rfl) T.b_isinstance (by decide +kernel) (pa_cons (pv 5) (pa_cons (pe_bltn (v := .ty "tuple") (by rfl) T.b_tuple (by decide +kernel) rfl) pa_nil)))))
            (pw_or (pt_cmpR (op_eqD hu64) (pv 5) (pe_tup pa_nil) (nomark _))
            (pw_or1 (pt_cmpR (op_neD hu64) (pe_callTy call_list_of (by rfl) T.b_list (by decide +kernel) (pa_cons (pv 5) pa_nil))
              (pe_lc (own := [("_law_name", 6)]) (g := gName 6) (tt := tTest (tOp (rIn K false) (tVar 6) (tVar 5))) (te := tVar 6) rfl scLTurn.nd (pi_keys (pv 2)) (blkOk_by (own := [("_law_name", 6)]) (N := nLTurn) (sc := defScope sLTurnsRight) (by decide +kernel))
                (fun _ _ _ _ _ => pg_name (i := 6) scLTurn.nd rfl (Or.inl rfl)) (fun _ _ _ _ _ => pts_one (pt_cmpR op_in_seq (pv 6) (pv 5) rfl)) (fun _ _ _ _ _ => pv 6)) (nomark _)))))) (pss_one (ps_ret pe_bl)) pss_nil)
        (pss_cons (ps_for PassesOwn.never rfl (pi_enumT (by rfl) T.b_enumerate (pa_cons (pv 5) pa_nil)) (pg_tup rfl (pgs_cons (pg_name (i := 7) scLTurn.nd rfl (.inl rfl)) (pgs_cons (pg_name (i := 8) scLTurn.nd rfl (.inr rfl)) pgs_nil)))
          (pss_one (ps_if (PW.pt (pw_or (pt_val (pe_callB (cr_any rfl) (by rfl) T.b_any (by decide +kernel) (pa_cons
              (pe_lc (own := [("_law_other", 11)]) (g := gName 11) (tt := tYes) (te := tCall spLMeets [] E0 (tCons (tVar 2) (tCons (tVar 8) (tCons (tVar 11) tNil)))) rfl scLTurn.nd (pi_tup (pe_slice sl_tup (pv 5) (po_some (pe_op op_add (pv 7) pe_int)) po_none)) (blkOk_by (own := [("_law_other", 11)]) (N := nLTurn) (sc := defScope sLTurnsRight) (by decide +kernel))
                (fun _ _ _ _ _ => pg_name (i := 11) scLTurn.nd rfl (Or.inl rfl)) (fun _ _ _ _ _ => pts_nil) (fun _ _ _ _ _ => pe_call GM hr1 rfl T.mgLMeets T.fnLMeets.kp T.bdLMeets .nil pass0 (pa_cons (pv 2) (pa_cons (pv 8) (pa_cons (pv 11) pa_nil))))) pa_nil)))
              (pw_or1 (pt_cmpR op_in_seq (pv 8) (pv 4) rfl)))) (pss_one (ps_ret pe_bl)) pss_nil)))
        (pss_one (ps_set (i := 4) scLTurn.nd rfl (.inl rfl) (pe_op op_cat (pv 4) (pe_callTy call_list_of (by rfl) T.b_list (by decide +kernel) (pa_cons (pv 5) pa_nil))))))))
      (pss_cons (ps_if (pt_cmpR (op_neD hu64) (pe_callB cr_sortedS (by rfl) T.b_sorted (by decide +kernel) (pa_cons (pv 4) pa_nil)) (pe_callB cr_sortedS (by rfl) T.b_sorted (by decide +kernel) (pa_cons (pe_callTy (call_listD rfl) (by rfl) T.b_list (by decide +kernel) (pa_cons (pv 2) pa_nil)) pa_nil)) (nomark _)) (pss_one (ps_ret pe_bl)) pss_nil)
      (pss_cons (ps_set (i := 9) scLTurn.nd rfl (.inl rfl) (pe_lst pa_nil))
      (pss_cons (ps_for PassesOwn.never rfl (pi_list (pe_revL (pe_call GR hr2 rfl T.mgLRemoval T.fnLRemoval.kp T.bdLRemoval .nil pass0 (pa_cons (pv 1) (pa_cons (pv 2) pa_nil))))) (pg_name (i := 6) scLTurn.nd rfl (Or.inr rfl))
        (pss_cons (ps_setLc (i := 10) (own := [("_law_k", 12), ("_law_turn", 5)]) (g := gTup K 2 (gCons (gName 12) (gCons (gName 5) gNil))) (tt := tNot (tB (tAnyM K (iList K (tVar 5)) 6))) (te := tVar 12) rfl scLTurn.nd rfl rfl rfl
            (pi_enum (by rfl) T.b_enumerate (pa_cons (pv 9) pa_nil)) (blkOk_by (own := [("_law_k", 12), ("_law_turn", 5)]) (N := nLTurn) (sc := defScope sLTurnsRight) (by decide +kernel))
            (fun _ _ _ _ _ => pg_tup rfl (pgs_cons (pg_name (i := 12) scLTurn.nd rfl (Or.inl rfl)) (pgs_cons (pg_name (i := 5) scLTurn.nd rfl (Or.inl rfl)) pgs_nil)))
            (fun _ _ _ _ _ => pts_one (pt_not (pt_val (pe_callB (cr_any rfl) (by rfl) T.b_any (by decide +kernel) (pa_cons
              (pe_lc (own := [("_law_other", 11)]) (g := gName 11) (tt := tYes) (te := tCall spLMeets [] E0 (tCons (tVar 2) (tCons (tVar 6) (tCons (tVar 11) tNil)))) rfl scLTurn.nd (pi_list (pv 5)) (blkOk_by (by kernel_rfl))
                (fun _ _ _ _ _ => pg_name (i := 11) scLTurn.nd rfl (Or.inl rfl)) (fun _ _ _ _ _ => pts_nil) (fun _ _ _ _ _ => pe_call GM hr1 rfl T.mgLMeets T.fnLMeets.kp T.bdLMeets .nil pass0 (pa_cons (pv 2) (pa_cons (pv 6) (pa_cons (pv 11) pa_nil))))) pa_nil)))))
            (fun _ _ _ _ _ => pv 12))
        (pss_one (ps_if (pt_cmpR (op_eqD hu64) (pv 10) (pe_lst pa_nil) (nomark _))
          (pss_one (ps_expr (pe_bm PySem.F.plainAttrs_list PySem.F.slot_list_append PySem.F.type_list_append mt_append (pv 9) (pa_cons (pe_lst (pa_cons (pv 6) pa_nil)) pa_nil))))
          (pss_one (ps_expr (pe_bm PySem.F.plainAttrs_list PySem.F.slot_list_append PySem.F.type_list_append mt_append (pe_ix ix_list (pv 9) (pe_ix ix_list (pv 10) pe_int (fun _ _ => rfl)) (fun _ _ => rfl)) (pa_cons (pv 6) pa_nil))))))))
      (pss_one (ps_ret (pe_cmpR (op_eqD hu64) (pv 3) (pe_lc (own := [("_law_turn", 5)]) (g := gName 5) (tt := tYes) (te := tCB (rTupOf K) (tCons (tLc (iKeys (tVar 2)) (gName 6) (tTest (tOp (rIn K false) (tVar 6) (tVar 5))) (tVar 6) [6]) tNil)) rfl scLTurn.nd (pi_list (pv 9)) (blkOk_by (own := [("_law_turn", 5)]) (N := nLTurn) (sc := defScope sLTurnsRight) (by decide +kernel))
        (fun _ _ _ _ _ => pg_name (i := 5) scLTurn.nd rfl (Or.inr rfl)) (fun _ _ _ _ _ => pts_nil)
        (fun _ _ _ _ _ => pe_callTy call_tuple_of (by rfl) T.b_tuple (by decide +kernel) (pa_cons
          (pe_lc (own := [("_law_name", 6)]) (g := gName 6) (tt := tTest (tOp (rIn K false) (tVar 6) (tVar 5))) (te := tVar 6) rfl scLTurn.nd (pi_keys (pv 2)) (blkOk_by (by kernel_rfl))
            (fun _ _ _ _ _ => pg_name (i := 6) scLTurn.nd rfl (Or.inl rfl)) (fun _ _ _ _ _ => pts_one (pt_cmpR op_in_seq (pv 6) (pv 5) rfl)) (fun _ _ _ _ _ => pv 6)) pa_nil))) (nomark _)))))))))), ?_⟩
    refine q_asgN (A := A) (P := fun v H' => ∃ f, v = .ref f ∧ TTAt H' f (toldS rows rts)) (en_call (ea_cons (ev_var (v := .ref p) rfl) ea_nil) fun H1 e1 Q' q' => ⟨p, rows, rts, rfl, hR.ex e1, hrok, hok, hT.ext e1, fun v H2 e2 t2 ⟨f, ev, _, ht⟩ => q' v H2 e2 t2 ⟨f, ev, ht⟩⟩) fun v H1 e1 t1 ⟨f, ev, ht⟩ => ?_
    subst ev
    have hA1 := hA.extN e1
    have hW1 := hW.extN e1
    obtain ⟨ws, ews⟩ := w0_cons hrok
    have hnm := told_nm hok
    have h40 := told_len40 hok
    have hperm : (toldS rows rts).flatten.Perm (nms rts) := told_perm R
    have hlen : (toldS rows rts).length = (pass (wyS rows rts) (nms rts) (bestOf rows rts)).length := by
      have := told_len hrok.good R ews
      unfold bestOf
      rw [ews]
      exact this
    obtain ⟨qs, h1, h2⟩ := id ht
    have hql : qs.length = (toldS rows rts).length := paired_len h2
    refine q_when (b := false) (et_or (a := false) (b := false) (et_not (a := true) (et_B (ev_isi (ea_cons (ev_var rfl) (ea_cons ev_c ea_nil)) (fun H2 e => .base (.lst (e _ _ h1))) (kit_ty (by decide +kernel)))))
      fun _ => et_test (ev_neI (ev_lenP (n := (toldS rows rts).length) ((ep_of (ev_var (v := .ref f) rfl)).imp fun v H' e z => ⟨f, _, z, .inl (sq_of (e _ _ h1)), by rw [List.length_map, hql]⟩))
        (ev_lenP (n := (pass (wyS rows rts) (nms rts) (bestOf rows rts)).length) ((ep_ix1 (K := K) (ep_lfull (ev_var (v := .ref a) rfl) (ev_var (v := .ref d) rfl) hA1 hW1 hrok hok)).imp fun v H' _ z => let ⟨q, z1, z2⟩ := z.sq (K := K); ⟨q, _, z1, .inr z2, by simp⟩)) (by rw [hlen]; simp))) (fun h => nomatch h) (fun _ H2 e2 => ?_)
    refine q_asgL (el_lst ea_nil (by simp)) fun sn0 H3 _ e3 hsn0 => ?_
    have e23 := e2.trans e3
    refine q_forL (a := f) (xs := qs.map V.ref) (ev_var rfl) (sq_of (e23 _ _ h1))
      (fun i σ' H' => ∃ (sn : Addr) (v5 v7 v8 : Option V), σ' = [some (.ref p), some (.ref a), some (.ref d), some (.ref f), some (.ref sn), v5, none, v7, v8, none, none, none, none] ∧ Ex H1 H' ∧ H' sn = some (.lst ((((toldS rows rts).take i).flatten).map V.str)))
      (fun H4 e4 => ⟨sn0, none, none, none, rfl, e23.trans e4, e4 _ _ hsn0⟩) (fun i σ' H' _ ⟨_, _, _, _, _, e, _⟩ => sq_of (e _ _ h1)) ?_ ?_
    · rintro i x σ' H' hx ⟨sn, v5, v7, v8, rfl, e4, hsn⟩
      obtain ⟨q, rfl, hq⟩ := refs_get hx
      obtain ⟨t, hti, hqt⟩ := paired_get h2 hq
      have htm : t ∈ toldS rows rts := List.mem_of_getElem? hti
      have K1 := told_ok R t htm
      have htake := take_snoc hti
      have hq4 := e4 _ _ hqt
      have hsub : ∀ o ∈ t, o ∈ nms rts := fun o ho => hperm.mem_iff.mp (List.mem_flatten.mpr ⟨t, htm, ho⟩)
      have htl : t.length ≤ 40 := by
        have h1 := List.Sublist.length_le (List.sublist_flatten_of_mem htm)
        have h2 := hperm.length_eq
        rw [nms_len] at h2
        omega
      have hfl : ((toldS rows rts).take i).flatten.length ≤ 40 := by
        have h1 : (((toldS rows rts).take i).flatten).length ≤ ((toldS rows rts).flatten).length := by
          conv => rhs; rw [← List.take_append_drop i (toldS rows rts)]
          rw [List.flatten_append, List.length_append]
          omega
        have h2 := hperm.length_eq
        rw [nms_len] at h2
        omega
      have hout : ∀ o ∈ t, o ∉ ((toldS rows rts).take i).flatten := by
        intro o ho hin
        have hnd : ((toldS rows rts).flatten).Nodup := hperm.nodup_iff.mpr R.nd
        have e : toldS rows rts = (toldS rows rts).take (i + 1) ++ (toldS rows rts).drop (i + 1) := (List.take_append_drop _ _).symm
        rw [e, htake, List.flatten_append, List.flatten_append, List.nodup_append] at hnd
        have hnd2 := hnd.1
        rw [List.nodup_append] at hnd2
        exact hnd2.2.2 o hin o (by simpa using ho) rfl
      refine q_when (b := false) ?_ (fun h => nomatch h) (fun _ H5 e5 => ?_)
      · refine et_or (a := false) (b := false) (et_not (a := true) (et_B (ev_isi (ea_cons (ev_var rfl) (ea_cons ev_c ea_nil)) (fun H2 e => .base (.tup (e _ _ hq4))) (kit_ty (by decide +kernel))))) fun _ => et_or (a := false) (b := false) (et_test (ev_eqD (d := .tuple (t.map PyData.str)) (e := .tuple ([].map PyData.str)) ((ep_of (ev_var (v := .ref q) rfl)).imp fun v H' e z => by subst z; exact dp_tup (st_of (e _ _ hq4)))
          ((ep_u (eu_tup ea_nil (by simp))).imp fun v H' _ ⟨q, z1, z2⟩ => by rw [z1]; exact dp_tup (ss := []) (st_of z2)) (shaped_tup (hnm t htm)) (shaped_tup (fun s hs => absurd hs (by simp))) (by
            rw [eqv_nil]
            cases ht0 : t with
            | nil => exact absurd ht0 K1.ne
            | cons _ _ => rfl))) fun _ => et_test (ev_neD (d := .list (t.map PyData.str)) (e := .list (t.map PyData.str)) ((ep_l (el_listL (ev_var rfl) (.inr (st_of hq4)))).imp fun v H' _ ⟨q, z1, z2⟩ => by rw [z1]; exact dp_lst (sq_of z2))
          ((ep_l (xs := t.map V.str) ?_).imp fun v H' _ ⟨q, z1, z2⟩ => by rw [z1]; exact dp_lst (sq_of z2)) (shaped_lst (hnm t htm)) (shaped_lst (hnm t htm)) (by rw [eqv_strs (hnm t htm)]; rfl))
        rw [K1.same]
        refine lcV (nms rts) (fun o => decide (o ∈ t)) V.str (src_ways (ev_var rfl) (hW1.ex e4)) (by rw [nms_len]; omega) (fun j n v H2 hn e2 hv => ?_)
        obtain ⟨n', hn', rfl⟩ := hv
        rw [hn] at hn'
        cases hn'
        exact ⟨_, tgt_name rfl, et_test (ev_inT (ev_var rfl) (ev_var rfl) (st_of (e2 _ _ hq4)) rfl), fun _ => ev_var rfl⟩
      · have e15 := e4.trans e5
        refine q_forET (a := q) (xs := t.map V.str) (ea_cons (ev_var rfl) ea_nil) (st_of (e5 _ _ hq4))
          (fun j σ' H' => ∃ (v7 v8 : Option V), σ' = [some (.ref p), some (.ref a), some (.ref d), some (.ref f), some (.ref sn), some (.ref q), none, v7, v8, none, none, none, none] ∧ Ex H1 H' ∧ H' sn = some (.lst ((((toldS rows rts).take i).flatten).map V.str)))
          (fun H6 e6 => ⟨v7, v8, rfl, e15.trans e6, (e5.trans e6) _ _ hsn⟩) (fun j σ' H' _ ⟨_, _, _, e, _⟩ => st_of (e _ _ hqt)) ?_ ?_
        · rintro j y σ' H' TT hy ⟨v7, v8, rfl, e6, hsn6⟩ hTT
          obtain ⟨one, hone⟩ : ∃ one, t[j]? = some one := by
            have hi := (List.getElem?_eq_some_iff.mp hy).1
            rw [List.length_map] at hi
            exact ⟨_, List.getElem?_eq_getElem hi⟩
          have := item_str hy hone
          subst this
          have hom : one ∈ t := List.mem_of_getElem? hone
          obtain ⟨hj, ej⟩ := List.getElem?_eq_some_iff.mp hone
          have e7 : Ex H1 (upd H' TT (.tup [.int (j : Nat), .str one])) := e6.trans (Ex.new hTT)
          have hsn7 : (upd H' TT (.tup [.int (j : Nat), .str one])) sn = some (.lst ((((toldS rows rts).take i).flatten).map V.str)) := by
            rw [upd_ne (ne_of_none hsn6 hTT)]
            exact hsn6
          refine g_pair (st_of upd_same) ?_
          refine s_when (b := false) (et_or (a := false) (b := false) (et_B (ev_anyc (t.drop (j + 1)) (fun o => meets (wyS rows rts) one o) (src_len (src_tupP ((ep_u (eu_from (a := q) (xs := t.map V.str) (k := j) (ev_var rfl) (eo_some (i := ((j + 1 : Nat) : Int)) ?_) (st_of (e7 _ _ hqt)) (by rw [List.length_map]; exact hj))).imp fun v H' _ ⟨q, z1, z2⟩ => ⟨q, z1, st_of z2⟩)) (by simp)) (by rw [List.length_drop]; omega) (fun k o v H8 ho e8 hv => ?_) ?_)) fun _ => et_test (ev_inL (ev_var rfl) (ev_var rfl) (sq_of hsn7) (decide_eq_false (hout one hom)))) (fun h => nomatch h) (fun _ H8 e8 => ⟨_, _, rfl, e7.trans e8, e8 _ _ hsn7⟩)
          · rw [show ((j + 1 : Nat) : Int) = (j : Int) + 1 by omega]
            exact ev_add (ev_var rfl) ev_c
          · rw [← List.map_drop] at hv
            have := item_str hv ho
            subst this
            exact ⟨_, tgt_name rfl, ev_meets (ev_var (v := .ref d) rfl) (ev_var (v := .str one) rfl) (ev_var (v := .str o) rfl) (hW1.ex (e7.trans e8)) hrok hok (hsub one hom) (hsub o (List.mem_of_mem_drop (List.mem_of_getElem? ho)))⟩
          · rw [List.any_eq_false]
            intro o ho
            have hd : t.drop j = one :: t.drop (j + 1) := by rw [List.drop_eq_getElem_cons hj, ej]
            have := List.Pairwise.sublist (List.drop_sublist j t) K1.apart
            rw [hd, List.pairwise_cons] at this
            rw [this.1 o ho]
            decide
        · rintro σ' H' ⟨v7, v8, rfl, e6, hsn6⟩
          refine s_asgL (el_cat (xs := (((toldS rows rts).take i).flatten).map V.str) (ev_var rfl) hsn6 (el_listL (ev_var (v := .ref q) rfl) (.inr (st_of (e6 _ _ hqt)))) (by rw [List.length_map, List.length_map]; omega)) fun sn2 H7 _ e7 h7 => ⟨sn2, _, _, _, rfl, e6.trans e7, ?_⟩
          rw [h7, htake, List.flatten_append, List.map_append]
          simp
    · rintro σ' H' ⟨sn, v5, v7, v8, rfl, e4, hsn⟩
      rw [List.length_map, hql, List.take_length] at hsn
      obtain ⟨zs, hz, hzn⟩ : ∃ zs : List Str, (∀ ys : List Str, ys.Perm (nms rts) → sortedS ys = true → ys = zs) ∧ ∀ s ∈ zs, IsNm s := by
        by_cases hex : ∃ zs : List Str, zs.Perm (nms rts) ∧ sortedS zs = true
        · obtain ⟨zs, z1, z2⟩ := hex
          exact ⟨zs, fun ys y1 y2 => sorted_uniq y2 z2 (y1.trans z1.symm), fun s hs => right_nm hok (z1.mem_iff.mp hs)⟩
        · exact ⟨[], fun ys y1 y2 => absurd ⟨ys, y1, y2⟩ hex, fun s hs => absurd hs (by simp)⟩
      have hn64 : (nms rts).length < 64 := by rw [nms_len]; omega
      refine q_when (b := false) (et_test (ev_neD (d := .list (zs.map PyData.str)) (e := .list (zs.map PyData.str)) ((ep_l (el_sortedV (K := K) (ev_var (v := .ref sn) rfl) hsn (by rw [hperm.length_eq]; exact hn64) (fun ys y1 y2 => hz ys (y1.trans hperm) y2))).imp fun v H' _ ⟨q, z1, z2⟩ => by rw [z1]; exact dp_lst (sq_of z2))
        ((ep_l (el_sorted (K := K) (el_listW (ev_var (v := .ref d) rfl) (hW1.ex e4)) hn64 hz)).imp fun v H' _ ⟨q, z1, z2⟩ => by rw [z1]; exact dp_lst (sq_of z2)) (shaped_lst hzn) (shaped_lst hzn) (by rw [eqv_strs hzn]; rfl))) (fun h => nomatch h) (fun _ H5 e5 => ?_)
      have e15 := e4.trans e5
      refine q_asgL (el_lst ea_nil (by simp)) fun l H6 nl e6 hl => ?_
      have hrem : EvL (tRevL K (tCall spLRemoval [] E0 (tCons (tVar 1) (tCons (tVar 2) tNil)))) [some (.ref p), some (.ref a), some (.ref d), some (.ref f), some (.ref sn), v5, none, v7, v8, some (.ref l), none, none, none] H6 ((remS rows rts).reverse.map V.str) := by
        rw [List.map_reverse]
        exact el_rev (el_removal (ev_var (v := .ref a) rfl) (ev_var (v := .ref d) rfl) (hA1.ex (e15.trans e6)) (hW1.ex (e15.trans e6)) hrok hok)
      refine q_forNLn (K := K) (xs := (remS rows rts).reverse.map V.str) hrem
        (fun pp i σ' H' => ∃ (v6 v10 : Option V) (ps : List Addr), σ' = [some (.ref p), some (.ref a), some (.ref d), some (.ref f), some (.ref sn), v5, v6, v7, v8, some (.ref l), v10, none, none] ∧ Ex H5 H' ∧ FAt ps H5 H' l (deal (clash (wyS rows rts)) ((remS rows rts).reverse.take i)) ∧ H' pp = some (.lst ((remS rows rts).reverse.map V.str)) ∧ pp ∉ ps ∧ pp ≠ l)
        (fun pp H7 np e7 hpp => ⟨none, none, [], rfl, e6.trans e7, ⟨e7 _ _ hl, .nil, .nil, fun p hp => absurd hp (by simp), by simp⟩, hpp, by simp, fun z => by rw [z, hl] at np; cases np⟩) (fun pp i σ' H' _ ⟨_, _, _, _, _, _, h, _⟩ => sq_of h) ?_ ?_
      · rintro pp i xv σ' H' hxv ⟨v6, v10, ps, rfl, e7, fa, hpp, npp, npl⟩
        obtain ⟨x, hx⟩ : ∃ x, (remS rows rts).reverse[i]? = some x := by
          have hi := (List.getElem?_eq_some_iff.mp hxv).1
          rw [List.length_map] at hi
          exact ⟨_, List.getElem?_eq_getElem hi⟩
        have := item_str hxv hx
        subst this
        have hxm : x ∈ nms rts := rem_in (List.mem_reverse.mp (List.mem_of_getElem? hx))
        have htk := take_snoc hx
        have hdeal : deal (clash (wyS rows rts)) ((remS rows rts).reverse.take (i + 1)) = put (clash (wyS rows rts) x) x (deal (clash (wyS rows rts)) ((remS rows rts).reverse.take i)) := by
          rw [htk, deal_snoc]
        have hperm2 : (deal (clash (wyS rows rts)) ((remS rows rts).reverse.take i)).flatten.Perm ((remS rows rts).reverse.take i) := deal_perm _ _
        have hfl : (deal (clash (wyS rows rts)) ((remS rows rts).reverse.take i)).flatten.length ≤ 40 := by
          rw [hperm2.length_eq, List.length_take, List.length_reverse, rem_len]
          omega
        have htl : (deal (clash (wyS rows rts)) ((remS rows rts).reverse.take i)).length ≤ 40 := by
          refine Nat.le_trans (deal_len _) ?_
          rw [List.length_take, List.length_reverse, rem_len]
          omega
        have hmem : ∀ t ∈ deal (clash (wyS rows rts)) ((remS rows rts).reverse.take i), ∀ o ∈ t, o ∈ nms rts := fun t ht o ho =>
          rem_in (List.mem_reverse.mp (List.mem_of_mem_take (hperm2.mem_iff.mp (List.mem_flatten.mpr ⟨t, ht, ho⟩))))
        obtain ⟨ts, hts⟩ : ∃ ts, ts = deal (clash (wyS rows rts)) ((remS rows rts).reverse.take i) := ⟨_, rfl⟩
        rw [← hts] at fa hfl htl hdeal hmem
        have hget : ∀ {k : Nat}, k < ts.length → ts.getD k [] ∈ ts := fun {k} hk => by
          rw [List.getD_eq_getElem?_getD, List.getElem?_eq_getElem hk]
          exact List.getElem_mem hk
        have hone : ∀ {k : Nat}, (ts.getD k []).length ≤ 40 := fun {k} => by
          by_cases hk : k < ts.length
          · exact Nat.le_trans (List.Sublist.length_le (List.sublist_flatten_of_mem (hget hk))) hfl
          · rw [List.getD_eq_getElem?_getD, List.getElem?_eq_none (by omega)]
            simp
        refine q_asgL (xs := ((frees (clash (wyS rows rts) x) ts).map fun k : Nat => (k : Int)).map V.int) ?_ fun fr H8 nf e8 hf => ?_
        · rw [List.map_map]
          refine lcV (List.range ts.length) (fun k => !clash (wyS rows rts) x (ts.getD k [])) (V.int ∘ fun k : Nat => (k : Int)) (src_len (src_enum (ea_cons (ev_var rfl) ea_nil) (sq_of fa.at_)) (by simp [fa.len])) (by simp; omega) (fun j y v H4 hy e4 hI => ?_)
          obtain ⟨TT, x', rfl, hTT, hx'⟩ := hI
          obtain ⟨hj, ey⟩ := List.getElem?_eq_some_iff.mp hy
          rw [List.getElem_range] at ey
          subst ey
          rw [List.length_range] at hj
          obtain ⟨p', h1', _, h3'⟩ := fa.get hj
          obtain ⟨p'', rfl, h2'⟩ := refs_get hx'
          rw [h1'] at h2'
          cases h2'
          refine ⟨_, tgt_pair (st_of hTT) rfl, et_not (et_B (ev_anyc (ts.getD j []) (fun o => meets (wyS rows rts) x o) (src_len (src_list (ev_var rfl) (sq_of (e4 _ _ h3'))) (by simp)) (by have := hone (k := j); omega) (fun j2 y2 v2 H5 hy2 e5 hI2 => ?_) rfl)), fun _ => ev_var rfl⟩
          have := item_str hI2 hy2
          subst this
          exact ⟨_, tgt_name rfl, ev_meets (ev_var (v := .ref d) rfl) (ev_var (v := .str x) rfl) (ev_var (v := .str y2) rfl) (hW1.ex (e15.trans (e7.trans (e4.trans e5)))) hrok hok hxm (hmem _ (hget hj) y2 (List.mem_of_getElem? hy2))⟩
        · have fa8 := fa.ex e8
          have e78 := e7.trans e8
          have hc : ∀ {b : Bool}, (frees (clash (wyS rows rts) x) ts).isEmpty = b → EvT (tTest (tOp (rEqD K) (tVar 10) (tLst tNil))) [some (.ref p), some (.ref a), some (.ref d), some (.ref f), some (.ref sn), v5, some (.str x), v7, v8, some (.ref l), some (.ref fr), none, none] H8 b := fun {b} hb => by
            refine et_test (ev_eqD (d := .list ((((frees (clash (wyS rows rts) x) ts).map fun k : Nat => (k : Int))).map PyData.int)) (e := .list (([] : List Int).map PyData.int)) ((ep_of (ev_var (v := .ref fr) rfl)).imp fun v H' eX z => ?_) ((ep_l (el_lst ea_nil (by simp))).imp fun v H' _ ⟨q, z1, z2⟩ => ?_) (shaped_ints _) (shaped_ints _) ?_)
            · subst z
              exact .lst (sq_of (eX _ _ hf)) (dp_ints _)
            · subst z1
              exact .lst (sq_of z2) (dp_ints [])
            · rw [eqv_nilI, ← hb]
              simp
          have npp8 : H8 pp = some (.lst ((remS rows rts).reverse.map V.str)) := e8 _ _ hpp
          unfold put at hdeal
          cases hfr : frees (clash (wyS rows rts) x) ts with
          | nil =>
            refine s_if (b := true) (hc (by rw [hfr]; rfl)) (fun _ H9 e9 => ?_) (fun h => nomatch h)
            refine s_appL ((fa8.ex e9).at_) (ev_var rfl) (el_lst (ea_cons (ev_var (v := .str x) rfl) ea_nil) (by simp)) (by simp [fa.len]; omega) fun p' H10 n10 e10 h10 => ⟨_, _, ps ++ [p'], rfl, ?_, ?_, ?_, ?_, npl⟩
            · exact Ex.mut (e78.trans (e9.trans e10)) nl
            · have nl' : l ≠ p' := fun z => by
                have := (fa8.ex e9).at_
                rw [z, n10] at this
                cases this
              rw [hdeal, hfr]
              refine ((fa8.ex e9).ex e10).snoc (t := [x]) h10 (fresh_back (e78.trans e9) n10) (fun z => ?_) nl'
              obtain ⟨t, ht⟩ := (fa8.ex e9).isL z
              rw [n10] at ht
              cases ht
            · rw [upd_ne npl]
              exact (e9.trans e10) _ _ npp8
            · intro z
              rcases List.mem_append.mp z with z | z
              · exact npp z
              · rw [List.mem_singleton.mp z, ← List.mem_singleton.mp z] at npp8
                rw [← List.mem_singleton.mp z, e9 _ _ npp8] at n10
                cases n10
          | cons k r =>
            refine s_if (b := false) (hc (by rw [hfr]; rfl)) (fun h => nomatch h) (fun _ H9 e9 => ?_)
            have hk : k < ts.length := by
              have : k ∈ frees (clash (wyS rows rts) x) ts := by rw [hfr]; exact List.mem_cons_self
              exact List.mem_range.mp (List.mem_filter.mp this).1
            have fa9 := fa8.ex e9
            obtain ⟨p', h1', h2', h3'⟩ := fa9.get hk
            have hf9 := e9 _ _ hf
            rw [hfr] at hf9
            refine s_app h3' (ev_ixL (i := (k : Int)) (ev_var rfl) (ev_ixL (v := .int (k : Int)) (ev_var rfl) ev_c (sq_of hf9) (at_nat (n := 0) rfl)) (sq_of fa9.at_) (at_nat (n := k) (by rw [List.getElem?_map, h1']; rfl))) (ev_var (v := .str x) rfl) (by rw [List.length_map]; have := hone (k := k); omega) fun H10 e10 => ⟨_, _, ps, rfl, ?_, ?_, ?_, npp, npl⟩
            · exact Ex.mut (e78.trans (e9.trans e10)) (fa9.new p' h2')
            · have := (fa9.ex e10).set (t := ts.getD k [] ++ [x]) h1'
              rw [List.map_append] at this
              rw [hdeal, hfr]
              exact this
            · rw [upd_ne (fun z => npp (by rw [z]; exact h2'))]
              exact (e9.trans e10) _ _ npp8
      · rintro pp σ' H' ⟨v6, v10, ps, rfl, e7, fa, hpp, npp, npl⟩
        have hd : deal (clash (wyS rows rts)) ((remS rows rts).reverse.take ((remS rows rts).reverse.map V.str).length) = dealt sea rows rts := by
          rw [List.length_map, List.take_length]
          rfl
        rw [hd] at fa
        have e17 := e15.trans e7
        have hdl : (dealt sea rows rts).length ≤ 40 := by
          refine Nat.le_trans (deal_len _) ?_
          rw [List.length_reverse]
          exact Nat.le_trans (Nat.le_of_eq (rem_len rows rts)) hm
        have hret : EvLP (tLc (iList K (tVar 9)) (gName 5) tYes (tCB (rTupOf K) (tCons (tLc (iKeys (tVar 2)) (gName 6) (tTest (tOp (rIn K false) (tVar 6) (tVar 5))) (tVar 6) [6]) tNil)) [5]) [some (.ref p), some (.ref a), some (.ref d), some (.ref f), some (.ref sn), v5, v6, v7, v8, some (.ref l), v10, none, none] H'
            (fun acc H3 => ∃ D, Paired (fun (t : List Str) v => ∃ q, v = .ref q ∧ q ≠ D ∧ H3 q = some (.tup (((nms rts).filter fun x => decide (x ∈ t)).map V.str))) (dealt sea rows rts) acc) := by
          refine lcR (dealt sea rows rts) (fun D t v H3 => ∃ q, v = .ref q ∧ q ≠ D ∧ H3 q = some (.tup (((nms rts).filter fun x => decide (x ∈ t)).map V.str))) (fun D t v H4 H5 e ⟨q, z1, z2, z3⟩ => ⟨q, z1, z2, e _ _ z2 z3⟩) (src_len (src_list (ev_var rfl) (sq_of fa.at_)) (by simp [fa.len])) (by omega) (fun i t v H3 D acc hy e3 hD hI => ?_)
          obtain ⟨p', rfl, hp'⟩ := refs_get hI
          obtain ⟨t', ht1, ht2⟩ := paired_get fa.its hp'
          rw [hy] at ht1
          cases ht1
          refine ⟨_, tgt_name rfl, (ep_u (eu_tupOf (lcV (nms rts) (fun x => decide (x ∈ t)) V.str (src_ways (ev_var (v := .ref d) rfl) (hW1.ex (e17.trans e3))) (by rw [nms_len]; omega) (fun j o v H4 hri e4 hv => ?_)))).imp fun v H' eX ⟨q, z1, z2⟩ => ⟨q, z1, ?_, z2⟩⟩
          · obtain ⟨n', hn', rfl⟩ := hv
            rw [hri] at hn'
            cases hn'
            exact ⟨_, tgt_name rfl, et_test (ev_inL (ev_var rfl) (ev_var rfl) (sq_of ((e3.trans e4) _ _ ht2)) rfl), fun _ => ev_var rfl⟩
          · exact ne_of z2 (eX _ _ hD) nofun
        have hqs : ∀ {H3 : Hp} {D' : Addr} {ys : List (List Str)} {acc : List V}, Paired (fun (t : List Str) v => ∃ q, v = .ref q ∧ q ≠ D' ∧ H3 q = some (.tup (((nms rts).filter fun x => decide (x ∈ t)).map V.str))) ys acc →
            ∃ qs : List Addr, acc = qs.map V.ref ∧ Paired (fun q (t : List Str) => H3 q = some (.tup (t.map V.str))) qs (ys.map fun t => (nms rts).filter fun x => decide (x ∈ t)) := by
          intro H3 D' ys acc h
          induction h with
          | nil => exact ⟨[], rfl, .nil⟩
          | cons r t ih =>
            obtain ⟨q, rfl, _, z3⟩ := r
            obtain ⟨qs, rfl, hqs⟩ := ih
            exact ⟨q :: qs, rfl, .cons z3 hqs⟩
        refine s_ret (v := .bl true) (ev_eqD (d := ttD (toldS rows rts)) (e := ttD (toldS rows rts)) ((ep_of (ev_var (v := .ref f) rfl)).imp fun v H9 e9 z => ?_) (fun H8 e8 Q8 q8 => hret H8 e8 _ fun D acc H9 nD e9 hacc ⟨D', hp⟩ => q8 _ H9 e9 ?_) (shaped_tt hnm) (shaped_tt hnm) (eqv_tt hnm)) fun H8 e8 => k _ H8 (e1.trans (ExtN.of (e17.trans e8))) (t1.ext (e17.trans e8)) rfl
        · subst z
          exact (ht.ex (e17.trans e9)).dp
        · obtain ⟨qs2, rfl, hqs'⟩ := hqs hp
          exact TTAt.dp ⟨qs2, hacc, hqs'⟩
end
end Wk

/-! the law's apart_right -/
namespace Wk
open PySem PySem.Spec PyProof.Rows L2 Evl LamX TL
theorem eqv_strsT {ss : List Str} (h : ∀ s ∈ ss, IsNm s) : PyData.eqv (.tuple (ss.map PyData.str)) (.tuple (ss.map PyData.str)) = true := SeqAt.eqv_refl _ (by rw [PyData.canLay0]; exact canLay_strs h)
theorem isT_ty {K : PySem.W.Frag} {ss : List Str} {q : Addr} {H : Hp} (h : IsT ss (.ref q) H) : TyX K H (.ref q) (.type "tuple") := by
  obtain ⟨p, e, h2⟩ := h
  cases e
  rcases h2 with h2 | ⟨o, h2⟩
  · exact .base (.tup h2)
  · exact .fTuple h2
theorem q_asgG {te : TE} {g : TG} {tz : TS} {D : Ends} {σ : L2.St} {H : Hp} (h : te σ H fun x H1 => g x σ H1 (tz D)) : tSeq (tAsg te g) tz D σ H := h
theorem ev_andV {ta tb : TE} {σ : L2.St} {H : Hp} (ha : Ev ta σ H (.bl true)) (hb : Ev tb σ H (.bl true)) : Ev (tAndV ta tb) σ H (.bl true) := fun H1 e1 Q q =>
  ha H1 e1 _ fun H2 e2 => ⟨true, rfl, by
    rw [if_pos rfl]
    exact hb H2 (e1.trans e2) Q fun H3 e3 => q H3 (e2.trans e3)⟩
def spLApartRight (A : Adr) : Sp := fun vs H Q _ => ∃ (p a d : Addr) (rows : List (Str × Str)) (rts : List (Str × Str × Str)), vs = [.ref p, .ref a, .ref d] ∧ RtsAt A H p rows rts ∧ RowsAt H a rows ∧ WaysAt H d rows rts ∧ RiverOk rows ∧ RightsOk rows rts ∧ Tabs (tabs A) H ∧ RetN A (fun v _ => v = .bl true) H Q
section
variable {P : Program} {w : World} {K : PySem.W.Frag} {mg : Str → Option Value} {base : Heap} {A : Adr}
abbrev nLApart : List Str := ["_law_told", "_law_rows", "_law_ways", "_law_names_here", "_law_weirs", "_law_place", "_law_one", "_law_name", "_law_due", "_law_other", "_law_weir"]
theorem scLApart : FnScope nLApart ["_law_told", "_law_rows", "_law_ways"] (defScope sLApartRight) := ⟨rfl, rfl, rfl, by decide +kernel, rfl, by decide +kernel, by decide +kernel⟩
theorem ok_lApartRight (T : Txt K mg A) (C : FunC K "removal_names" "removal_names" sRemNames A.fRemNames A.dRemNames A.cR0) (TB : TabB base mg A.cR0 A.pR0) : FnOk P w K mg base CX0 10 A.fLApartRight A.dLApartRight ["_law_told", "_law_rows", "_law_ways"] (spLApartRight A) := by
  have GA : FnOk P w K mg base CX0 8 A.fApart A.dApart ["rights"] (spApart A) := ok_apart T C TB
  have GG : FnOk P w K mg base CX0 9 A.fGuards A.dGuards ["rights"] (spGuards A) := ok_guards T C TB
  have GM : FnOk P w K mg base CX0 1 A.fLMeets A.dLMeets ["_law_ways", "_law_one", "_law_other"] spLMeets := ok_lMeets T
  have GR : FnOk P w K mg base CX0 2 A.fLRemoval A.dLRemoval ["_law_rows", "_law_ways"] spLRemoval := ok_lRemoval T
  refine T.fnLApartRight.ok scLApart (fun vs H Q E h => ?_) (fun cdv AA outer s H vs Q E hr h => ?_)
  · obtain ⟨p, a, d, rows, rts, rfl, _⟩ := h
    rfl
  · obtain ⟨p, a, d, rows, rts, rfl, hR, hA, hW, hrok, hok, hT, k⟩ := h
    have hr1 : Room 1 _ := hr.mono (by decide)
    have hr2 : Room 2 _ := hr.mono (by decide)
    have hr8 : Room 8 _ := hr.mono (by decide)
    have hu64 := hr.units
    have hu := hu_of hr
    have hm := hok.most
    have R := hok.good
    refine ⟨_, pss_cons (ps_asg (pe_tup (pa_cons (pe_call GA hr8 rfl T.mgApart T.fnApart.kp T.bdApart .nil pass0 (pa_cons (pv 0) pa_nil)) (pa_cons (pe_call GG hr rfl T.mgGuards T.fnGuards.kp T.bdGuards .nil pass0 (pa_cons (pv 0) pa_nil)) pa_nil))) (pg_tup rfl (pgs_cons (pg_name (i := 3) scLApart.nd rfl (.inl rfl)) (pgs_cons (pg_name (i := 4) scLApart.nd rfl (.inr rfl)) pgs_nil))))
      (pss_cons (ps_if (PW.pt (pw_or (pt_not (pt_val (pe_callB call_isi (by rfl) T.b_isinstance (by decide +kernel) (pa_cons (pv 3) (pa_cons (pe_bltn (v := .ty "tuple") (by rfl) T.b_tuple (by decide +kernel) rfl) pa_nil)))))
          (pw_or (pt_not (pt_val (pe_callB call_isi (by rfl) T.b_isinstance (by decide +kernel) (pa_cons (pv 4) (pa_cons (pe_bltn (v := .ty "tuple") (by rfl) T.b_tuple (by decide +kernel) rfl) pa_nil)))))
          (pw_or1 (pt_cmpR op_ne (pe_callB call_len_seq (by rfl) T.b_len PySem.boot_len (pa_cons (pv 3) pa_nil)) (pe_callB call_len_seq (by rfl) T.b_len PySem.boot_len (pa_cons (pv 4) pa_nil)) (nomark _)))))) (pss_one (ps_ret pe_bl)) pss_nil)
      (pss_cons (ps_for PassesOwn.never rfl (pi_enumT (by rfl) T.b_enumerate (pa_cons (pv 3) pa_nil)) (pg_tup rfl (pgs_cons (pg_name (i := 5) scLApart.nd rfl (.inl rfl)) (pgs_cons (pg_name (i := 6) scLApart.nd rfl (.inr rfl)) pgs_nil)))
        (pss_one (ps_if (pt_val (pe_callB (cr_any rfl) (by rfl) T.b_any (by decide +kernel) (pa_cons
              (pe_lc (own := [("_law_other", 9)]) (g := gName 9) (tt := tYes) (te := tCall spLMeets [] E0 (tCons (tVar 2) (tCons (tVar 6) (tCons (tVar 9) tNil)))) rfl scLApart.nd (pi_tup (pe_slice sl_tup (pv 3) (po_some (pe_op op_add (pv 5) pe_int)) po_none)) (blkOk_by (own := [("_law_other", 9)]) (N := nLApart) (sc := defScope sLApartRight) (by decide +kernel))
                (fun _ _ _ _ _ => pg_name (i := 9) scLApart.nd rfl (Or.inl rfl)) (fun _ _ _ _ _ => pts_nil) (fun _ _ _ _ _ => pe_call GM hr1 rfl T.mgLMeets T.fnLMeets.kp T.bdLMeets .nil pass0 (pa_cons (pv 2) (pa_cons (pv 6) (pa_cons (pv 9) pa_nil))))) pa_nil))) (pss_one (ps_ret pe_bl)) pss_nil)))
      (pss_cons (ps_if (pt_not (pt_val (pe_callB (cr_all rfl) (by rfl) T.b_all (by decide +kernel) (pa_cons
          (pe_lc (own := [("_law_name", 7)]) (g := gName 7) (tt := tYes) (te := tCB (rAny K) (tCons (tLc (iTup K (tVar 4)) (gName 10) tYes (tOp (rIn K false) (tVar 10) (tDGet (tVar 2) (tVar 7))) [10]) tNil)) rfl scLApart.nd (pi_keys (pv 2)) (blkOk_by (own := [("_law_name", 7)]) (N := nLApart) (sc := defScope sLApartRight) (by decide +kernel))
            (fun _ _ _ _ _ => pg_name (i := 7) scLApart.nd rfl (Or.inr rfl)) (fun _ _ _ _ _ => pts_nil)
            (fun _ _ _ _ _ => pe_callB (cr_any rfl) (by rfl) T.b_any (by decide +kernel) (pa_cons
              (pe_lc (own := [("_law_weir", 10)]) (g := gName 10) (tt := tYes) (te := tOp (rIn K false) (tVar 10) (tDGet (tVar 2) (tVar 7))) rfl scLApart.nd (pi_tup (pv 4)) (blkOk_by (by kernel_rfl))
                (fun _ _ _ _ _ => pg_name (i := 10) scLApart.nd rfl (Or.inl rfl)) (fun _ _ _ _ _ => pts_nil) (fun _ _ _ _ _ => pe_cmpR op_in_seq (pv 10) (pe_dget hu (pv 2) (pv 7) (fun _ _ => rfl)) rfl)) pa_nil))) pa_nil)))) (pss_one (ps_ret pe_bl)) pss_nil)
      (pss_cons (ps_set (i := 8) scLApart.nd rfl (.inl rfl) (pe_lst pa_nil))
      (pss_cons (ps_for PassesOwn.never rfl (pi_list (pe_call GR hr2 rfl T.mgLRemoval T.fnLRemoval.kp T.bdLRemoval .nil pass0 (pa_cons (pv 1) (pa_cons (pv 2) pa_nil)))) (pg_name (i := 7) scLApart.nd rfl (Or.inr rfl))
        (pss_one (ps_if (pt_not (pt_val (pe_callB (cr_any rfl) (by rfl) T.b_any (by decide +kernel) (pa_cons
              (pe_lc (own := [("_law_other", 9)]) (g := gName 9) (tt := tYes) (te := tCall spLMeets [] E0 (tCons (tVar 2) (tCons (tVar 7) (tCons (tVar 9) tNil)))) rfl scLApart.nd (pi_list (pv 8)) (blkOk_by (own := [("_law_other", 9)]) (N := nLApart) (sc := defScope sLApartRight) (by decide +kernel))
                (fun _ _ _ _ _ => pg_name (i := 9) scLApart.nd rfl (Or.inl rfl)) (fun _ _ _ _ _ => pts_nil) (fun _ _ _ _ _ => pe_call GM hr1 rfl T.mgLMeets T.fnLMeets.kp T.bdLMeets .nil pass0 (pa_cons (pv 2) (pa_cons (pv 7) (pa_cons (pv 9) pa_nil))))) pa_nil))))
          (pss_one (ps_expr (pe_bm PySem.F.plainAttrs_list PySem.F.slot_list_append PySem.F.type_list_append mt_append (pv 8) (pa_cons (pv 7) pa_nil)))) pss_nil)))
      (pss_one (ps_ret (pe_and (pe_cmpR (op_eqD hu64) (pv 3) (pe_callTy call_tuple_of (by rfl) T.b_tuple (by decide +kernel) (pa_cons (pv 8) pa_nil)) (nomark _))
        (pe_one (pe_cmpR (op_eqD hu64) (pv 4) (pe_callTy call_tuple_of (by rfl) T.b_tuple (by decide +kernel) (pa_cons
          (pe_lc (own := [("_law_name", 7)]) (g := gName 7) (tt := tYes) (te := tOp (rIxL K) (tDGet (tVar 2) (tVar 7)) (tUn (rU fun i => .int (-i)) (tC (.int 1)))) rfl scLApart.nd (pi_list (pv 8)) (blkOk_by (own := [("_law_name", 7)]) (N := nLApart) (sc := defScope sLApartRight) (by decide +kernel))
            (fun _ _ _ _ _ => pg_name (i := 7) scLApart.nd rfl (Or.inl rfl)) (fun _ _ _ _ _ => pts_nil) (fun _ _ _ _ _ => pe_ix ix_list (pe_dget hu (pv 2) (pv 7) (fun _ _ => rfl)) (pe_un un_neg pe_int) (fun _ _ => rfl))) pa_nil)) (nomark _))))))))))), ?_⟩
    refine q_asgG (c_tup (c_two ?_))
    refine (en_call (A := A) (P := IsT (aptS rows rts)) (ea_cons (ev_var (σ := start nLApart [.ref p, .ref a, .ref d]) (v := .ref p) rfl) ea_nil) fun H1 e1 Q' q' => ⟨p, rows, rts, rfl, hR.ex e1, hrok, hok, hT.ext e1, q'⟩) _ fun v1 H1 e1 t1 hv1 => ?_
    refine (en_call (A := A) (P := IsT ((aptS rows rts).map (lwS rows rts))) (ea_cons (ev_var (σ := start nLApart [.ref p, .ref a, .ref d]) (v := .ref p) rfl) ea_nil) fun H2 e2 Q' q' => ⟨p, rows, rts, rfl, (hR.extN e1).ex e2, hrok, hok, t1.ext e2, q'⟩) _ fun v2 H2 e2 t2 hv2 => ⟨sz_of (by simp), fun pt npt => ?_⟩
    have hv1' := hv1.extN e2
    obtain ⟨q1, rfl, hq1⟩ := hv1'.sq (K := K)
    obtain ⟨q2, rfl, hq2⟩ := hv2.sq (K := K)
    refine g_pair (st_of upd_same) ?_
    have eN : Ex H2 (upd H2 pt (.tup [.ref q1, .ref q2])) := Ex.new npt
    have E3 : ExtN H (upd H2 pt (.tup [.ref q1, .ref q2])) := (e1.trans e2).trans (ExtN.of eN)
    have T3 := t2.ext eN
    have hq1' := ex_t eN hq1
    have hq2' := ex_t eN hq2
    have hty1 : ∀ {H'' : Hp}, Ex (upd H2 pt (.tup [.ref q1, .ref q2])) H'' → TyX K H'' (.ref q1) (.type "tuple") := fun e => isT_ty ((hv1'.ex eN).ex e)
    have hty2 : ∀ {H'' : Hp}, Ex (upd H2 pt (.tup [.ref q1, .ref q2])) H'' → TyX K H'' (.ref q2) (.type "tuple") := fun e => isT_ty ((hv2.ex eN).ex e)
    have hA3 := hA.extN E3
    have hW3 := hW.extN E3
    generalize upd H2 pt (.tup [.ref q1, .ref q2]) = H3 at *
    have ha40 : (aptS rows rts).length ≤ 40 := Nat.le_trans (apt_len rows rts) hm
    have hsub : ∀ o ∈ aptS rows rts, o ∈ nms rts := apt_sub
    have hnm : ∀ o ∈ aptS rows rts, IsNm o := fun o ho => right_nm hok (hsub o ho)
    have hgn : ∀ g ∈ (aptS rows rts).map (lwS rows rts), IsNm g := fun g hg => by
      obtain ⟨o, ho, rfl⟩ := List.mem_map.mp hg
      exact weir_nm hrok (lw_weir hrok hok (hsub o ho))
    refine q_when (b := false) (et_or (a := false) (b := false) (et_not (a := true) (et_B (ev_isi (ea_cons (ev_var rfl) (ea_cons ev_c ea_nil)) (fun H2 e => hty1 e) (kit_ty (by decide +kernel)))))
      fun _ => et_or (a := false) (b := false) (et_not (a := true) (et_B (ev_isi (ea_cons (ev_var rfl) (ea_cons ev_c ea_nil)) (fun H2 e => hty2 e) (kit_ty (by decide +kernel)))))
      fun _ => et_test (ev_neI (ev_lenSq (ea_cons (ev_var rfl) ea_nil) (.inr hq1')) (ev_lenSq (ea_cons (ev_var rfl) ea_nil) (.inr hq2')) (by simp))) (fun h => nomatch h) (fun _ H4 e4 => ?_)
    refine q_forET (a := q1) (xs := (aptS rows rts).map V.str) (ea_cons (ev_var rfl) ea_nil) (ex_t e4 hq1')
      (fun j σ' H' => ∃ (v5 v6 : Option V), σ' = [some (.ref p), some (.ref a), some (.ref d), some (.ref q1), some (.ref q2), v5, v6, none, none, none, none] ∧ Ex H3 H')
      (fun H5 e5 => ⟨none, none, rfl, e4.trans e5⟩) (fun j σ' H' _ ⟨_, _, _, e⟩ => ex_t e hq1') ?_ ?_
    · rintro j y σ' H' TT hy ⟨v5, v6, rfl, e6⟩ hTT
      obtain ⟨one, hone⟩ : ∃ one, (aptS rows rts)[j]? = some one := by
        have hi := (List.getElem?_eq_some_iff.mp hy).1
        rw [List.length_map] at hi
        exact ⟨_, List.getElem?_eq_getElem hi⟩
      have := item_str hy hone
      subst this
      have hom : one ∈ aptS rows rts := List.mem_of_getElem? hone
      obtain ⟨hj, ej⟩ := List.getElem?_eq_some_iff.mp hone
      have e7 : Ex H3 (upd H' TT (.tup [.int (j : Nat), .str one])) := e6.trans (Ex.new hTT)
      refine g_pair (st_of upd_same) ?_
      refine s_when (b := false) (et_B (ev_anyc ((aptS rows rts).drop (j + 1)) (fun o => meets (wyS rows rts) one o) (src_len (src_tupP ((ep_u (eu_from (a := q1) (xs := (aptS rows rts).map V.str) (k := j) (ev_var rfl) (eo_some (i := ((j + 1 : Nat) : Int)) ?_) (ex_t e7 hq1') (by rw [List.length_map]; exact hj))).imp fun v H' _ ⟨q, z1, z2⟩ => ⟨q, z1, st_of z2⟩)) (by simp)) (by rw [List.length_drop]; omega) (fun k o v H8 ho e8 hv => ?_) ?_)) (fun h => nomatch h) (fun _ H8 e8 => ⟨_, _, rfl, e7.trans e8⟩)
      · rw [show ((j + 1 : Nat) : Int) = (j : Int) + 1 by omega]
        exact ev_add (ev_var rfl) ev_c
      · rw [← List.map_drop] at hv
        have := item_str hv ho
        subst this
        exact ⟨_, tgt_name rfl, ev_meets (ev_var (v := .ref d) rfl) (ev_var (v := .str one) rfl) (ev_var (v := .str o) rfl) (hW3.ex (e7.trans e8)) hrok hok (hsub one hom) (hsub o (List.mem_of_mem_drop (List.mem_of_getElem? ho)))⟩
      · rw [List.any_eq_false]
        intro o ho
        have hd : (aptS rows rts).drop j = one :: (aptS rows rts).drop (j + 1) := by rw [List.drop_eq_getElem_cons hj, ej]
        have := List.Pairwise.sublist (List.drop_sublist j (aptS rows rts)) apt_apart
        rw [hd, List.pairwise_cons] at this
        have h2 := this.1 o ho
        show ¬ meets (wyS rows rts) one o = true
        rw [h2]
        decide
    · rintro σ' H' ⟨v5, v6, rfl, e6⟩
      refine q_when (b := false) (et_not (a := true) (et_B (ev_allc (nms rts) (fun n => ((aptS rows rts).map (lwS rows rts)).any fun w => decide (w ∈ wyS rows rts n)) (src_ways (ev_var (v := .ref d) rfl) (hW3.ex e6)) (by rw [nms_len]; omega) (fun i n v H7 hn e7 hv => ?_) ?_))) (fun h => nomatch h) (fun _ H7 e7 => ?_)
      · obtain ⟨n', hn', rfl⟩ := hv
        rw [hn] at hn'
        cases hn'
        have hnm' : n ∈ nms rts := List.mem_of_getElem? hn
        refine ⟨_, tgt_name rfl, ev_anyc ((aptS rows rts).map (lwS rows rts)) (fun w => decide (w ∈ wyS rows rts n)) (src_len (src_tup (ev_var (v := .ref q2) rfl) (ex_t (e6.trans e7) hq2')) (by simp)) (by simp; omega) (fun j wx v H8 hw e8 hv => ?_) rfl⟩
        have := item_str hv hw
        subst this
        exact ⟨_, tgt_name rfl, ev_inLP (ev_var rfl) ((ep_ways (ev_var (v := .ref d) rfl) (ev_var (v := .str n) rfl) (hW3.ex ((e6.trans e7).trans e8)) hnm').imp fun v H' _ ⟨p, z1, z2⟩ => ⟨p, z1, sq_of z2⟩) rfl⟩
      · rw [List.all_eq_true]
        intro n hn
        obtain ⟨wx, h1, h2⟩ := apt_guard hrok.good R n hn
        exact List.any_eq_true.mpr ⟨wx, h1, decide_eq_true h2⟩
      · have e37 := e6.trans e7
        refine q_asgL (el_lst ea_nil (by simp)) fun l H8 nl e8 hl => ?_
        refine q_forNLn (K := K) (xs := (remS rows rts).map V.str) (el_removal (ev_var (v := .ref a) rfl) (ev_var (v := .ref d) rfl) (hA3.ex (e37.trans e8)) (hW3.ex (e37.trans e8)) hrok hok)
          (fun pp i σ' H' => ∃ (v7 : Option V), σ' = [some (.ref p), some (.ref a), some (.ref d), some (.ref q1), some (.ref q2), v5, v6, v7, some (.ref l), none, none] ∧ Ex H7 H' ∧ H' l = some (.lst ((pick (clash (wyS rows rts)) ((remS rows rts).take i)).map V.str)) ∧ H' pp = some (.lst ((remS rows rts).map V.str)) ∧ pp ≠ l)
          (fun pp H9 np e9 hpp => ⟨none, rfl, e8.trans e9, by simpa [pick] using e9 _ _ hl, hpp, fun z => by rw [z, hl] at np; cases np⟩) (fun pp i σ' H' _ ⟨_, _, _, _, h, _⟩ => sq_of h) ?_ ?_
        · rintro pp i xv σ' H' hxv ⟨v7, rfl, e9, hl9, hpp, npl⟩
          obtain ⟨x, hx⟩ : ∃ x, (remS rows rts)[i]? = some x := by
            have hi := (List.getElem?_eq_some_iff.mp hxv).1
            rw [List.length_map] at hi
            exact ⟨_, List.getElem?_eq_getElem hi⟩
          have := item_str hxv hx
          subst this
          have hxm : x ∈ nms rts := rem_in (List.mem_of_getElem? hx)
          have htk := take_snoc hx
          have hps : pick (clash (wyS rows rts)) ((remS rows rts).take (i + 1)) = if clash (wyS rows rts) x (pick (clash (wyS rows rts)) ((remS rows rts).take i)) = true then pick (clash (wyS rows rts)) ((remS rows rts).take i) else pick (clash (wyS rows rts)) ((remS rows rts).take i) ++ [x] := by
            rw [htk, pick_snoc]
          have hmem : ∀ o ∈ pick (clash (wyS rows rts)) ((remS rows rts).take i), o ∈ nms rts := fun o ho => rem_in (List.mem_of_mem_take (pick_sub _ _ o ho))
          have hpl : (pick (clash (wyS rows rts)) ((remS rows rts).take i)).length ≤ 40 := by
            refine Nat.le_trans (pick_len _) ?_
            rw [List.length_take, rem_len]
            omega
          rw [hps]
          generalize pick (clash (wyS rows rts)) ((remS rows rts).take i) = ds at *
          have hc : ∀ {b : Bool}, clash (wyS rows rts) x ds = b → EvT (tNot (tB (tCB (rAny K) (tCons (tLc (iList K (tVar 8)) (gName 9) tYes (tCall spLMeets [] E0 (tCons (tVar 2) (tCons (tVar 7) (tCons (tVar 9) tNil)))) [9]) tNil)))) [some (.ref p), some (.ref a), some (.ref d), some (.ref q1), some (.ref q2), v5, v6, some (.str x), some (.ref l), none, none] H' (!b) := fun {b} hb => by
            refine et_not (et_B (ev_anyc ds (fun o => meets (wyS rows rts) x o) (src_len (src_list (ev_var rfl) (sq_of hl9)) (by simp)) (by omega) (fun j o v H4 ho e4 hI => ?_) hb))
            have := item_str hI ho
            subst this
            exact ⟨_, tgt_name rfl, ev_meets (ev_var (v := .ref d) rfl) (ev_var (v := .str x) rfl) (ev_var (v := .str o) rfl) (hW3.ex (e37.trans (e9.trans e4))) hrok hok hxm (hmem o (List.mem_of_getElem? ho))⟩
          cases hcl : clash (wyS rows rts) x ds with
          | true =>
            refine s_when (b := false) (hc hcl) (fun h => nomatch h) (fun _ H10 e10 => ⟨_, rfl, e9.trans e10, ?_, e10 _ _ hpp, npl⟩)
            rw [if_pos rfl]
            exact e10 _ _ hl9
          | false =>
            refine s_when (b := true) (hc hcl) (fun _ H10 e10 => ?_) (fun h => nomatch h)
            refine s_app (e10 _ _ hl9) (ev_var rfl) (ev_var (v := .str x) rfl) (by simp; omega) fun H11 e11 => ⟨_, rfl, Ex.mut (e9.trans (e10.trans e11)) nl, ?_, ?_, npl⟩
            · rw [if_neg (by decide), upd_same, List.map_append]
              rfl
            · rw [upd_ne npl]
              exact (e10.trans e11) _ _ hpp
        · rintro pp σ' H' ⟨v7, rfl, e9, hl9, hpp, npl⟩
          have hd : pick (clash (wyS rows rts)) ((remS rows rts).take ((remS rows rts).map V.str).length) = aptS rows rts := by
            rw [List.length_map, List.take_length]
            rfl
          rw [hd] at hl9
          have e39 := e37.trans e9
          refine s_ret (v := .bl true) (ev_andV (ev_eqD (d := .tuple ((aptS rows rts).map PyData.str)) (e := .tuple ((aptS rows rts).map PyData.str)) ((ep_of (ev_var (v := .ref q1) rfl)).imp fun v H9 e z => by subst z; exact dp_tup (ex_t (e39.trans e) hq1')) ((ep_u (eu_tupL (ev_var (v := .ref l) rfl) (sq_of hl9))).imp fun v H' _ ⟨q, z1, z2⟩ => by rw [z1]; exact dp_tup (st_of z2)) (shaped_tup hnm) (shaped_tup hnm) (eqv_strsT hnm))
            (ev_eqD (d := .tuple (((aptS rows rts).map (lwS rows rts)).map PyData.str)) (e := .tuple (((aptS rows rts).map (lwS rows rts)).map PyData.str)) ((ep_of (ev_var (v := .ref q2) rfl)).imp fun v H9 e z => by subst z; exact dp_tup (ex_t (e39.trans e) hq2')) ((ep_u (eu_tupOf (xs := ((aptS rows rts).map (lwS rows rts)).map V.str) ?_)).imp fun v H' _ ⟨q, z1, z2⟩ => by rw [z1]; exact dp_tup (st_of z2)) (shaped_tup hgn) (shaped_tup hgn) (eqv_strsT hgn))) fun H10 e10 => k _ H10 (E3.trans (ExtN.of (e39.trans e10))) (T3.ext (e39.trans e10)) rfl
          rw [List.map_map]
          refine lcM (aptS rows rts) (V.str ∘ lwS rows rts) (src_len (src_list (ev_var rfl) (sq_of hl9)) (by simp)) (by omega) (fun i n v H2 hri e2 hv => ?_)
          have := item_str hv hri
          subst this
          exact ⟨_, tgt_name rfl, ev_wlast (ev_var (v := .ref d) rfl) (ev_var (v := .str n) rfl) (hW3.ex (e39.trans e2)) hrok hok (hsub n (List.mem_of_getElem? hri))⟩
end
end Wk

/-! what the law's own walk needs -/
namespace Wk
open PySem PySem.Spec PyProof.Rows L2 Evl LamX TL
section
variable {σ : L2.St} {H : Hp} {ta tb tc : TE}
theorem c_takeZ {Q : Bool → Hp → Prop} {g : Addr} {n z : Int} {E : XK} (hg : Ev ta σ H (.ref g)) (hn : Ev tb σ H (.int n)) (b : Bag g H) (h1 : 1 ≤ n) (h2 : n < 1000000) (k : ∀ (c : Bool) H2, ExO g H H2 → Bag g H2 → Q c H2) :
    tTest (tOp rEq (tCall spLTake [] E (tCons ta (tCons tb tNil))) (tC (.int z))) σ H Q :=
  eb_take hg hn b h1 h2 fun r H2 hr e2 b2 => by
    have := ev_eqI (ta := tC (.int (r : Int))) (tb := tC (.int z)) (σ := σ) (H := H2) ev_c ev_c rfl
    exact (et_test this) H2 (Ex.refl H2) Q fun H3 e3 => k _ H3 (e2.trans (ExO.of e3)) (b2.ex e3)
theorem c_many {Q : VK} {g : Addr} {n z x y : Int} {E : XK} (hg : Ev ta σ H (.ref g)) (hn : Ev tb σ H (.int n)) (b : Bag g H) (h1 : 1 ≤ n) (h2 : n < 1000000) (k : ∀ (m : Int) H2, m = x ∨ m = y → ExO g H H2 → Bag g H2 → Q (.int m) H2) :
    tIf (tTest (tOp rEq (tCall spLTake [] E (tCons ta (tCons tb tNil))) (tC (.int z)))) (tC (.int x)) (tC (.int y)) σ H Q :=
  c_takeZ hg hn b h1 h2 fun c H2 e2 b2 => by
    cases c with
    | true => exact k x H2 (.inl rfl) e2 b2
    | false => exact k y H2 (.inr rfl) e2 b2
/-- take(bag, x if take(bag, n) == z else y) -/
theorem c_take2 {Q : VK} {g : Addr} {n z x y : Int} {E E' : XK} {td : TE} (hg : ∀ H1, Ev td σ H1 (.ref g)) (hn : ∀ H1, Ev tb σ H1 (.int n)) (b : Bag g H) (h1 : 1 ≤ n) (h2 : n < 1000000) (hx : 1 ≤ x ∧ x < 1000000) (hy : 1 ≤ y ∧ y < 1000000) (k : ∀ (r : Nat) H2, (r : Int) < max x y → ExO g H H2 → Bag g H2 → Q (.int (r : Int)) H2) :
    tCall spLTake [] E' (tCons td (tCons (tIf (tTest (tOp rEq (tCall spLTake [] E (tCons td (tCons tb tNil))) (tC (.int z)))) (tC (.int x)) (tC (.int y))) tNil)) σ H Q :=
  c_call (c_two ((hg H) H (Ex.refl H) _ fun H1 e1 => c_many (hg H1) (hn H1) (b.ex e1) h1 h2 fun m H2 hm e2 b2 => ⟨g, m, rfl, b2, by rcases hm with z | z <;> omega, by rcases hm with z | z <;> omega, fun v H3 e3 b3 ⟨r, ev, hr⟩ => by
    subst ev
    exact k r H3 (by rcases hm with z | z <;> omega) (((ExO.of e1).trans e2).trans e3) b3⟩))
theorem ev_max {i j : Int} {t : TA} (h : EvA t σ H [.int i, .int j]) : Ev (tCB (fun xs H Q => ∃ i j, xs = [V.int i, V.int j] ∧ Q (.int (if j > i then j else i)) H) t) σ H (.int (if j > i then j else i)) := ev_cb h fun H1 _ Q q => ⟨i, j, rfl, q H1 (Ex.refl _)⟩
theorem ev_min {i j : Int} {t : TA} (h : EvA t σ H [.int i, .int j]) : Ev (tCB (fun xs H Q => ∃ i j, xs = [V.int i, V.int j] ∧ Q (.int (if j < i then j else i)) H) t) σ H (.int (if j < i then j else i)) := ev_cb h fun H1 _ Q q => ⟨i, j, rfl, q H1 (Ex.refl _)⟩
end
theorem ExtN.mutN {H H1 : Hp} {p : Addr} {o : HO} (e : ExtN H H1) (n : NewN p H) : ExtN H (upd H1 p o) := fun b u hb hu => by
  rw [upd_ne (fun z => by
    rw [z] at hb
    obtain ⟨ps, e⟩ := n u hb
    exact hu ps e)]
  exact e b u hb hu
theorem newN_none {p : Addr} {H : Hp} (h : H p = none) : NewN p H := fun o ho => by rw [h] at ho; cases ho
theorem ExO.extN {g : Addr} {H H' : Hp} (e : ExO g H H') (n : H g = none) : ExtN H H' := fun b o hb _ => e b o (ne_of_none hb n) hb
theorem tabs_exO {T : List (Addr × Str)} {H H' : Hp} {g : Addr} (t : Tabs T H) (e : ExO g H H') (n : H g = none) : Tabs T H' := t.ext fun b o hb => e b o (ne_of_none hb n) hb
theorem tabs_up {T : List (Addr × Str)} {H : Hp} {d : Addr} {o u : HO} (t : Tabs T H) (h : H d = some o) (h1 : ∀ ps, o ≠ .tbl ps) (h2 : ∀ c q, o ≠ CodeO c q) : Tabs T (upd H d u) := fun p hp => by
  obtain ⟨ps, a1, a2, a3⟩ := t p hp
  refine ⟨ps, by rw [upd_ne (fun z => by rw [z, h] at a1; exact h1 _ (Option.some.inj a1))]; exact a1, a2, fun pos cv hc => ?_⟩
  obtain ⟨c, e1, e2⟩ := a3 pos cv hc
  exact ⟨c, e1, by rw [upd_ne (fun z => by rw [z, h] at e2; exact h2 _ _ (Option.some.inj e2))]; exact e2⟩
theorem sql_extN {K : PySem.W.Frag} {H H' : Hp} {a : Addr} {xs : List V} (e : ExtN H H') (h : SqL K H a xs) : SqL K H' a xs := by
  rcases h with (h | ⟨o, h⟩) | h
  · exact .inl (.inl (e _ _ h nofun))
  · exact .inl (.inr ⟨o, e _ _ h nofun⟩)
  · exact .inr h
/-- without d -/
def er (H : Hp) (d : Addr) : Hp := fun b => if b = d then none else H b
theorem er_ex {H H' : Hp} {d : Addr} (e : ∀ b o, b ≠ d → H b = some o → H' b = some o) : Ex (er H d) H' := fun b o h => by
  unfold er at h
  by_cases z : b = d
  · rw [if_pos z] at h; cases h
  · rw [if_neg z] at h; exact e b o z h
theorem er_extN {H H' : Hp} {d : Addr} (e : ∀ b o, b ≠ d → H b = some o → (∀ ps, o ≠ .tbl ps) → H' b = some o) : ExtN (er H d) H' := fun b o h n => by
  unfold er at h
  by_cases z : b = d
  · rw [if_pos z] at h; cases h
  · rw [if_neg z] at h; exact e b o z h n
/-- a locked dict -/
def lockB : HO → Bool
  | .frz _ (.dK _) => true
  | _ => false
/-- all but a locked dict stays -/
def ExtF (H H' : Hp) : Prop := ∀ b o, H b = some o → lockB o = false → H' b = some o
theorem er_extF {H : Hp} {d : Addr} {od : Obj} {kvs : List (Key × V)} (h : H d = some (.frz od (.dK kvs))) : ExtF H (er H d) := fun b o hb n => by
  unfold er
  rw [if_neg (fun z => by
    rw [z, h] at hb
    have := Option.some.inj hb
    rw [← this] at n
    cases n)]
  exact hb
theorem IsT.extF {ss : List Str} {v : V} {H H' : Hp} (e : ExtF H H') (h : IsT ss v H) : IsT ss v H' := by
  obtain ⟨p, h1, h2⟩ := h
  refine ⟨p, h1, ?_⟩
  rcases h2 with h2 | ⟨o, h2⟩
  · exact .inl (e _ _ h2 rfl)
  · exact .inr ⟨o, e _ _ h2 rfl⟩
theorem IsC.extF {ss : List Str} {v : V} {H H' : Hp} (e : ExtF H H') (h : IsC ss v H) : IsC ss v H' := by
  obtain ⟨p, o, h1, h2, h3⟩ := h
  exact ⟨p, o, h1, e _ _ h2 rfl, h3⟩
theorem IsE.extF {rts : List (Str × Str × Str)} {n : Str} {v : V} {H H' : Hp} (e : ExtF H H') (h : IsE rts n v H) : IsE rts n v H' := by
  obtain ⟨r, q, h1, h2, h3, h4⟩ := h
  exact ⟨r, q, h1, h2, h3, e _ _ h4 rfl⟩
theorem IsD.extF {ws : List Str} {v : V} {H H' : Hp} (e : ExtF H H') (h : IsD ws v H) : IsD ws v H' := by
  obtain ⟨q, kk, h1, h2, h3⟩ := h
  exact ⟨q, kk, h1, e _ _ h2 rfl, h3⟩
theorem RivAt.extF {A : Adr} {H H' : Hp} {p : Addr} {rows : List (Str × Str)} (e : ExtF H H') (h : RivAt A H p rows) : RivAt A H' p rows := by
  obtain ⟨dx, aw, al, ac, kc, h1, h2, h3, h4, h5⟩ := h
  exact ⟨dx, aw, al, ac, kc, e _ _ h1 rfl, e _ _ h2 rfl, e _ _ h3 rfl, e _ _ h4 rfl, h5.mono fun w v z => z.extF e⟩
theorem RtsAt.extF {A : Adr} {H H' : Hp} {p : Addr} {rows : List (Str × Str)} {rts : List (Str × Str × Str)} (e : ExtF H H') (h : RtsAt A H p rows rts) : RtsAt A H' p rows rts := by
  obtain ⟨dx, pr, an, ae, aw, as_, ke, kw, ks, h1, h2, h3, h4, h5, h6, h7, h8, h9⟩ := h
  exact ⟨dx, pr, an, ae, aw, as_, ke, kw, ks, e _ _ h1 rfl, h2.extF e, e _ _ h3 rfl, e _ _ h4 rfl, h5.mono fun _ _ z => z.extF e, e _ _ h6 rfl, h7.mono fun _ _ z => z.extF e, e _ _ h8 rfl, h9.mono fun _ _ z => z.extF e⟩
/-! ### as data -/
def rghT (rts : List (Str × Str × Str)) : List (List Str) := rts.map fun r => [r.1, r.2.1, r.2.2]
def rowT (rows : List (Str × Str)) : List (List Str) := rows.map fun r => [r.1, r.2]
theorem paired_mapR {α β γ : Type} {F : α → β → Prop} {G : α → γ → Prop} {f : β → γ} (h : ∀ a b, F a b → G a (f b)) : ∀ {l : List α} {m : List β}, Paired F l m → Paired G l (m.map f)
  | _, _, .nil => .nil
  | _, _, .cons r t => .cons (h _ _ r) (paired_mapR h t)
theorem RghAt.tt {H : Hp} {a : Addr} {rts : List (Str × Str × Str)} (h : RghAt H a rts) : TTAt H a (rghT rts) := by
  obtain ⟨ps, h1, h2⟩ := h
  exact ⟨ps, h1, paired_mapR (f := fun r : Str × Str × Str => [r.1, r.2.1, r.2.2]) (fun _ _ z => z) h2⟩
theorem RowsAt.tt {H : Hp} {a : Addr} {rows : List (Str × Str)} (h : RowsAt H a rows) : TTAt H a (rowT rows) := by
  obtain ⟨ps, h1, h2⟩ := h
  exact ⟨ps, h1, paired_mapR (f := fun r : Str × Str => [r.1, r.2]) (fun _ _ z => z) h2⟩
theorem rowT_nm {rows : List (Str × Str)} (h : RiverOk rows) : ∀ t ∈ rowT rows, ∀ s ∈ t, IsNm s := fun t ht s hs => by
  obtain ⟨r, hr, rfl⟩ := List.mem_map.mp ht
  have := h.nm r hr
  have e : s = r.1 ∨ s = r.2 := by simpa using hs
  rcases e with e | e
  · rw [e]; exact this.1
  · rw [e]; exact this.2
theorem rghT_nm {rows : List (Str × Str)} {rts : List (Str × Str × Str)} (hrok : RiverOk rows) (h : RightsOk rows rts) : ∀ t ∈ rghT rts, ∀ s ∈ t, IsNm s := fun t ht s hs => by
  obtain ⟨r, hr, rfl⟩ := List.mem_map.mp ht
  have e : s = r.1 ∨ s = r.2.1 ∨ s = r.2.2 := by simpa using hs
  rcases e with e | e | e
  · rw [e]; exact h.nm r hr
  · rw [e]; exact weir_nm hrok (h.good.ok r hr).1
  · rw [e]
    rcases (h.good.ok r hr).2 with z | z
    · rw [z]; exact sea_nm
    · exact weir_nm hrok (IsPath.mem (x := r.2.1) (hrok.good.path (h.good.ok r hr).1) _ z)
/-- a pair of a text and a tuple of texts, as data -/
def pD (x : Str) (ss : List Str) : PyData := .tuple [.str x, .tuple (ss.map PyData.str)]
theorem IsP.dp {K : PySem.W.Frag} {x : Str} {ss : List Str} {v : V} {H : Hp} (h : IsP x ss v H) : Dp K H v (pD x ss) := by
  obtain ⟨p, q, rfl, h2, h3⟩ := h
  exact .tup (st_of h2) (.cons (.str x) (.cons h3.dp .nil))
theorem pD_lay {x : Str} {ss : List Str} (hx : IsNm x) (h : ∀ s ∈ ss, IsNm s) : (pD x ss).canLay0 = true := by
  unfold pD
  rw [PyData.canLay0, PyData.canLayAll0, PyData.canLay0, strOk_nm hx, PyData.canLayAll0, PyData.canLay0, canLay_strs h, PyData.canLayAll0]
  rfl
theorem shaped_pD {x : Str} {ss : List Str} (hx : IsNm x) (h : ∀ s ∈ ss, IsNm s) : SeqAt.shaped (pD x ss) = true := by
  unfold SeqAt.shaped
  rw [pD_lay hx h]
  unfold pD
  simp [PyData.depth, PyData.depthAll, depth_strs]
theorem eqv_pD {x : Str} {ss : List Str} (hx : IsNm x) (h : ∀ s ∈ ss, IsNm s) : PyData.eqv (pD x ss) (pD x ss) = true := SeqAt.eqv_refl _ (pD_lay hx h)
end Wk

/-! the law -/
namespace Wk
open PySem PySem.Spec PyProof.Rows L2 Evl LamX TL
theorem c_three {ta tb tc : TE} {σ : L2.St} {H : Hp} {Q : List V → Hp → Prop} (h : ta σ H fun v H1 => tb σ H1 fun u H2 => tc σ H2 fun w H3 => Q [v, u, w] H3) : tCons ta (tCons tb (tCons tc tNil)) σ H Q := h
theorem c_cb {r : List V → Hp → VK → Prop} {t : TA} {σ : L2.St} {H : Hp} {Q : VK} (h : t σ H fun vs H1 => r vs H1 Q) : tCB r t σ H Q := h
theorem q_lock {t tz : TS} {D : Ends} {σ : L2.St} {H : Hp} {d : Addr} {u : HO} (h : H d = some u) (mu : Mut (some u)) (k : ∀ od, t ⟨fun σ' H' => H' d = some (.frz od u) ∧ tz D σ' (upd H' d u), fun v H' => H' d = some (.frz od u) ∧ D.rt v (upd H' d u), fun σ' H' => H' d = some (.frz od u) ∧ D.bk σ' (upd H' d u), fun σ' H' => H' d = some (.frz od u) ∧ D.ct σ' (upd H' d u)⟩ σ (upd H d (.frz od u))) :
    tSeq (tLock t) tz D σ H := ⟨d, u, h, mu, k⟩
theorem s_asgC {te : TE} {i : Nat} {D : Ends} {σ : L2.St} {H : Hp} (h : te σ H fun v H1 => D.nx (σ.set i (some v)) H1) : tAsg te (gName i) D σ H := h
theorem c_make {C : Addr} {sp : Sp} {dvs : List V} {E : XK} {t : TA} {σ : L2.St} {H : Hp} {Q : VK} (h : t σ H fun vs H1 => ∀ x dx, H1 x = none → H1 dx = none → dx ≠ x → sp (.ref x :: (vs ++ dvs)) (upd (upd H1 dx (.own x)) x (.ins C dx [])) (fun v H2 => v = .non ∧ Q (.ref x) H2) E) : tMake C sp dvs E t σ H Q := h
theorem c_or {t u : TT} {σ : L2.St} {H : Hp} {Q : Bool → Hp → Prop} (h : EvT t σ H false) (k : ∀ H1, Ex H H1 → u σ H1 Q) : tOr t u σ H Q := h H (Ex.refl H) _ fun H1 e1 => by
  rw [if_neg (by decide)]
  exact k H1 e1
theorem c_notB {te : TE} {σ : L2.St} {H : Hp} {Q : Bool → Hp → Prop} (h : te σ H fun x H1 => ∃ c, x = .bl c ∧ Q (!c) H1) : tNot (tB te) σ H Q := h
theorem NewN.back {p : Addr} {H H1 : Hp} (n : NewN p H1) (e : ExtN H H1) : NewN p H := fun o ho => by
  by_cases h : ∃ ps, o = .tbl ps
  · exact h
  · exact n o (e p o ho fun ps z => h ⟨ps, z⟩)
/-- what the comprehension of the ways has made -/
theorem ways_of {H : Hp} {D : Addr} {rows : List (Str × Str)} : ∀ {rts : List (Str × Str × Str)} {acc : List V}, Paired (fun (r : Str × Str × Str) v => ∃ q pw, v = V.ref q ∧ q ≠ D ∧ pw ≠ D ∧ H q = some (.tup [.str r.1, .ref pw]) ∧ H pw = some (.lst ((way sea rows r.2.1 r.2.2).map V.str))) rts acc →
    ∃ (ps : List Addr) (kvs : List (Key × V)), acc = ps.map V.ref ∧ Paired (fun p (kv : Key × V) => H p = some (.tup [kV kv.1, kv.2])) ps kvs ∧ kvs.map (·.1) = (nms rts).map Sum.inr ∧ ∀ n v, ((Sum.inr n : Key), v) ∈ kvs → ∃ r ∈ rts, r.1 = n ∧ IsL (way sea rows r.2.1 r.2.2) v H
  | [], _, .nil => ⟨[], [], rfl, .nil, rfl, fun n v h => absurd h (by simp)⟩
  | r :: rts, _, .cons ⟨q, pw, h1, h2, h3, h4, h5⟩ t => by
    obtain ⟨ps, kvs, rfl, g2, g3, g4⟩ := ways_of t
    subst h1
    refine ⟨q :: ps, (Sum.inr r.1, .ref pw) :: kvs, rfl, .cons h4 g2, ?_, fun n v hm => ?_⟩
    · rw [List.map_cons, g3]
      rfl
    · rcases List.mem_cons.mp hm with z | z
      · cases z
        exact ⟨r, List.mem_cons_self, rfl, pw, rfl, h5⟩
      · obtain ⟨r', a, b, c⟩ := g4 n v z
        exact ⟨r', List.mem_cons_of_mem _ a, b, c⟩
def spLaw (K : PySem.W.Frag) (A : Adr) : Sp := fun vs H Q _ => ∃ (a : Addr) (ns : List Int), vs = [.ref a] ∧ SqL K H a (ns.map V.int) ∧ ns.length ≤ 63 ∧ Tabs (tabs A) H ∧ ∀ H', Q (.bl true) H'
section
variable {P : Program} {w : World} {K : PySem.W.Frag} {mg : Str → Option Value} {base : Heap} {A : Adr}
abbrev nLaw : List Str := ["_law_script", "_law_at", "_law_bag_here", "_law_rows", "_law_rights_here", "_law_ways", "_law_told", "_law_turn", "_law_right"]
theorem scLaw : FnScope nLaw ["_law_script"] (defScope sLaw) := ⟨rfl, rfl, rfl, by decide +kernel, rfl, by decide +kernel, by decide +kernel⟩
theorem ok_law (T : Txt K mg A) (C : FunC K "removal_names" "removal_names" sRemNames A.fRemNames A.dRemNames A.cR0) (TB : TabB base mg A.cR0 A.pR0) : FnOk P w K mg base CX0 12 A.fLaw A.dLaw ["_law_script"] (spLaw K A) := by
  have GT : FnOk P w K mg base CX0 1 A.fLTake A.dLTake ["_law_bag_here", "_law_many"] spLTake := ok_lTake T
  have GB : FnOk P w K mg base CX0 1 A.fLBag A.dLBag ["_law_script", "_law_at", "_law_salt"] (spLBag K) := ok_lBag T
  have GR : FnOk P w K mg base CX0 4 A.fLRiver A.dLRiver ["_law_bag_here", "_law_many"] spLRiver := ok_lRiver T
  have GG : FnOk P w K mg base CX0 5 A.fLRights A.dLRights ["_law_bag_here", "_law_rows", "_law_many"] spLRights := ok_lRights T
  have GW : FnOk P w K mg base CX0 2 A.fLWay A.dLWay ["_law_rows", "_law_right"] spLWay := ok_lWay T
  have GVI : FnOk P w K mg base CX0 4 A.fVInit A.dVInit ["self", "rows"] (spVInit A) := ok_vInit T
  have GRI : FnOk P w K mg base CX0 4 A.fRInit A.dRInit ["self", "river", "rows"] (spRInit A) := ok_rInit T
  have GF : FnOk P w K mg base CX0 3 A.fFullest A.dFullest ["rights"] (spFullest A) := ok_fullest T
  have GLF : FnOk P w K mg base CX0 1 A.fLFullest A.dLFullest ["_law_rows", "_law_ways"] spLFullest := ok_lFullest T
  have GTR : FnOk P w K mg base CX0 9 A.fLTurnsRight A.dLTurnsRight ["_law_told", "_law_rows", "_law_ways"] (spLTurnsRight A) := ok_lTurnsRight T C TB
  have GAR : FnOk P w K mg base CX0 10 A.fLApartRight A.dLApartRight ["_law_told", "_law_rows", "_law_ways"] (spLApartRight A) := ok_lApartRight T C TB
  have GTU : FnOk P w K mg base CX0 8 A.fTurns A.dTurns ["rights"] (spTurns A) := ok_turns T C TB
  have GRR : FnOk P w K mg base CX0 1 A.fRRows A.dRRows ["self"] (spRRows A) := ok_rRows T
  have GVR : FnOk P w K mg base CX0 1 A.fVRows A.dVRows ["self"] (spVRows A) := ok_vRows T
  refine T.fnLaw.ok scLaw (fun vs H Q E h => ?_) (fun cdv AA outer s H vs Q E hr h => ?_)
  · obtain ⟨a, ns, rfl, _⟩ := h
    rfl
  · obtain ⟨a, ns, rfl, ha, hz, hT, k⟩ := h
    have hr1 : Room 1 _ := hr.mono (by decide)
    have hr2 : Room 2 _ := hr.mono (by decide)
    have hr3 : Room 3 _ := hr.mono (by decide)
    have hr4 : Room 4 _ := hr.mono (by decide)
    have hr5 : Room 5 _ := hr.mono (by decide)
    have hr8 : Room 8 _ := hr.mono (by decide)
    have hr9 : Room 9 _ := hr.mono (by decide)
    have hr10 : Room 10 _ := hr.mono (by decide)
    have hu64 := hr.units
    refine ⟨_, pss_cons (ps_for PassesOwn.never rfl (pi_range1 (by rfl) T.b_range (pa_cons (pe_callB (call_max2 rfl) (by rfl) T.b_max (by decide +kernel) (pa_cons pe_int (pa_cons (pe_callB (call_min2 rfl) (by rfl) T.b_min (by decide +kernel) (pa_cons pe_int (pa_cons (pe_callB call_len_seq (by rfl) T.b_len PySem.boot_len (pa_cons (pv 0) pa_nil)) pa_nil))) pa_nil))) pa_nil)) (pg_name (i := 1) scLaw.nd rfl (Or.inl rfl))
        (pss_cons (ps_set (i := 2) scLaw.nd rfl (.inl rfl) (pe_call GB hr1 rfl T.mgLBag T.fnLBag.kp T.bdLBag .nil pass0 (pa_cons (pv 0) (pa_cons (pv 1) (pa_cons pe_int pa_nil)))))
        (pss_cons (ps_set (i := 3) scLaw.nd rfl (.inr rfl) (pe_call GR hr4 rfl T.mgLRiver T.fnLRiver.kp T.bdLRiver .nil pass0 (pa_cons (pv 2) (pa_cons (pe_op op_add pe_int (pe_call GT hr1 rfl T.mgLTake T.fnLTake.kp T.bdLTake .nil pass0 (pa_cons (pv 2) (pa_cons
            (pe_ifExp (pt_cmpR op_eq (pe_call GT hr1 rfl T.mgLTake T.fnLTake.kp T.bdLTake .nil pass0 (pa_cons (pv 2) (pa_cons pe_int pa_nil))) pe_int (nomark _)) pe_int pe_int) pa_nil)))) pa_nil))))
        (pss_cons (ps_set (i := 4) scLaw.nd rfl (.inl rfl) (pe_call GG hr5 rfl T.mgLRights T.fnLRights.kp T.bdLRights .nil pass0 (pa_cons (pv 2) (pa_cons (pv 3) (pa_cons (pe_call GT hr1 rfl T.mgLTake T.fnLTake.kp T.bdLTake .nil pass0 (pa_cons (pv 2) (pa_cons
            (pe_ifExp (pt_cmpR op_eq (pe_call GT hr1 rfl T.mgLTake T.fnLTake.kp T.bdLTake .nil pass0 (pa_cons (pv 2) (pa_cons pe_int pa_nil))) pe_int (nomark _)) pe_int pe_int) pa_nil))) pa_nil)))))
        (pss_cons (ps_set (i := 5) scLaw.nd rfl (.inl rfl) (pe_callTy (call_dictP rfl) (by rfl) T.b_dict (by decide +kernel) (pa_cons
            (pe_lc (own := [("_law_right", 8)]) (g := gName 8) (tt := tYes) (te := tTup (tCons (tOp (rIxT K) (tVar 8) (tC (.int 0))) (tCons (tCall spLWay [] E0 (tCons (tVar 3) (tCons (tVar 8) tNil))) tNil))) rfl scLaw.nd (pi_list (pv 4)) (blkOk_by (own := [("_law_right", 8)]) (N := nLaw) (sc := defScope sLaw) (by decide +kernel))
              (fun _ _ _ _ _ => pg_name (i := 8) scLaw.nd rfl (Or.inl rfl)) (fun _ _ _ _ _ => pts_nil) (fun _ _ _ _ _ => pe_tup (pa_cons (pe_ix ix_tup (pv 8) pe_int (fun _ _ => rfl)) (pa_cons (pe_call GW hr2 rfl T.mgLWay T.fnLWay.kp T.bdLWay .nil pass0 (pa_cons (pv 3) (pa_cons (pv 8) pa_nil))) pa_nil)))) pa_nil)))
        (pss_cons (ps_lock (ps_set (i := 6) scLaw.nd rfl (.inl rfl) (pe_make T.mkR GRI hr5 rfl T.mgR T.bdRInit .nil pass0 (pa_cons (pe_make T.mkV GVI hr5 rfl T.mgV T.bdVInit .nil pass0 (pa_cons (pv 3) pa_nil)) (pa_cons (pv 4) pa_nil)))))
        (pss_cons (ps_lock (ps_for PassesOwn.never rfl (pi_range1 (by rfl) T.b_range (pa_cons pe_int pa_nil)) (pg_name (i := 7) scLaw.nd rfl (Or.inl rfl))
            (pss_cons (ps_if (PW.pt (pw_or (pt_cmpR (op_neD hu64) (pe_call GF hr3 rfl T.mgFullest T.fnFullest.kp T.bdFullest .nil pass0 (pa_cons (pv 6) pa_nil)) (pe_call GLF hr1 rfl T.mgLFullest T.fnLFullest.kp T.bdLFullest .nil pass0 (pa_cons (pv 3) (pa_cons (pv 5) pa_nil))) (nomark _))
                (pw_or1 (pt_not (pt_val (pe_call GTR hr9 rfl T.mgLTurnsRight T.fnLTurnsRight.kp T.bdLTurnsRight .nil pass0 (pa_cons (pv 6) (pa_cons (pv 3) (pa_cons (pv 5) pa_nil))))))))) (pss_one (ps_ret pe_bl)) pss_nil)
            (pss_cons (ps_if (pt_not (pt_val (pe_call GAR hr10 rfl T.mgLApartRight T.fnLApartRight.kp T.bdLApartRight .nil pass0 (pa_cons (pv 6) (pa_cons (pv 3) (pa_cons (pv 5) pa_nil)))))) (pss_one (ps_ret pe_bl)) pss_nil)
            (pss_one (ps_expr (pe_bm PySem.F.plainAttrs_list PySem.F.slot_list_append PySem.F.type_list_append mt_append (pe_call GTU hr8 rfl T.mgTurns T.fnTurns.kp T.bdTurns .nil pass0 (pa_cons (pv 6) pa_nil)) (pa_cons (pe_tup (pa_cons pe_str pa_nil)) pa_nil))))))))
        (pss_one (ps_if (PW.pt (pw_or (pt_cmpR (op_neD hu64) (pe_meth0 (pv 6) T.clR T.mtRRows GRR hr1 T.bdRRows .nil pass0) (pv 4) (nomark _))
            (pw_or1 (pt_cmpR (op_neD hu64) (pe_meth0 (pe_fld (pv 6) rfl) T.clV T.mtVRows GVR hr1 T.bdVRows .nil pass0) (pv 3) (nomark _))))) (pss_one (ps_ret pe_bl)) pss_nil)))))))))
      (pss_one (ps_ret pe_bl)), ?_⟩
    refine q_forR1 (n := if (if (ns.length : Int) < 3 then (ns.length : Int) else 3) > 1 then (if (ns.length : Int) < 3 then (ns.length : Int) else 3) else 1) (ea_cons (ev_max (ea_cons ev_c (ea_cons (ev_min (ea_cons ev_c (ea_cons (ev_lenP (n := ns.length) ((ep_of (ev_var (v := .ref a) rfl)).imp fun v H' e z => ⟨a, _, z, .inl (ex_l e ha), by simp⟩)) ea_nil))) ea_nil))) ea_nil) (by split <;> split at * <;> omega)
      (fun i σ' H' => ∃ (v1 v2 v3 v4 v5 v6 v7 : Option V), σ' = [some (.ref a), v1, v2, v3, v4, v5, v6, v7, none] ∧ ExtN H H' ∧ Tabs (tabs A) H')
      (fun H1 e1 => ⟨none, none, none, none, none, none, none, rfl, ExtN.of e1, hT.ext e1⟩) ?_ (fun σ' H' _ => s_ret ev_c fun H2 _ => k H2)
    rintro i σ' H' hi ⟨v1, v2, v3, v4, v5, v6, v7, rfl, eN, tN⟩
    -- the bag
    refine q_asgC (c_call3 (ev_var (v := .ref a) rfl) (ev_var (v := .int (i : Int)) rfl) ev_c fun H1 e1 => ⟨a, ns, i, _, rfl, ex_l e1 (sql_extN eN ha), hz, fun g H2 ng e2 bg => ?_⟩)
    have ng0 : H' g = none := fresh_back e1 ng
    have E2 : ExO g H' H2 := ExO.of (e1.trans e2)
    -- the rows
    refine q_asgC (c_call (c_two ((ev_var (v := .ref g) rfl) H2 (Ex.refl H2) _ fun H3 e3 => c_op ((ev_c (σ := [some (.ref a), some (.int (i : Int)), some (.ref g), v3, v4, v5, v6, v7, none]) (v := .int 1)) H3 (Ex.refl H3) _ fun H4 e4 => c_take2 (g := g) (n := 8) (fun _ => ev_var rfl) (fun _ => ev_c) (bg.ex (e3.trans e4)) (by decide) (by decide) (by decide) (by decide) fun r H5 hr5 e5 b5 => ⟨1, (r : Int), rfl, rfl, g, r + 1, ?_, b5, by omega, by omega, fun pr rows H6 npr e6 b6 hA hrok => ?_⟩))))
    · rw [show ((r + 1 : Nat) : Int) = 1 + (r : Int) by omega]
      rfl
    have E5 : ExO g H' H5 := (E2.trans (ExO.of (e3.trans e4))).trans e5
    have E6 : ExO g H' H6 := E5.trans e6
    have hpg : pr ≠ g := b5.ne npr
    -- the rights
    refine q_asgC (c_call (c_three ((ev_var (v := .ref g) rfl) H6 (Ex.refl H6) _ fun H7 e7 => (ev_var (v := .ref pr) rfl) H7 (Ex.refl H7) _ fun H8 e8 => c_take2 (g := g) (n := 8) (fun _ => ev_var rfl) (fun _ => ev_c) (b6.ex (e7.trans e8)) (by decide) (by decide) (by decide) (by decide) fun r2 H9 hr9 e9 b9 => ⟨g, pr, r2, rows, rfl, b9, hpg, (hA.ex (e7.trans e8)).exO e9 (b6.ex (e7.trans e8)) hpg, hrok, by omega, fun rg rts H10 nrg e10 b10 hG hok => ?_⟩)))
    have E10 : ExO g H' H10 := ((E6.trans (ExO.of (e7.trans e8))).trans e9).trans e10
    have hA10 : RowsAt H10 pr rows := ((hA.ex (e7.trans e8)).exO e9 (b6.ex (e7.trans e8)) hpg).exO e10 b9 hpg
    have tN10 : Tabs (tabs A) H10 := tabs_exO tN E10 ng0
    have N10 : ExtN H H10 := eN.trans (E10.extN ng0)
    have hm := hok.most
    obtain ⟨gs, hg1, hg2⟩ := id hG
    have hgl : gs.length = rts.length := paired_len hg2
    -- the ways
    have hL : EvLP (tLc (iList K (tVar 4)) (gName 8) tYes (tTup (tCons (tOp (rIxT K) (tVar 8) (tC (.int 0))) (tCons (tCall spLWay [] E0 (tCons (tVar 3) (tCons (tVar 8) tNil))) tNil))) [8]) [some (.ref a), some (.int (i : Int)), some (.ref g), some (.ref pr), some (.ref rg), v5, v6, v7, none] H10
        (fun acc H3 => ∃ D, Paired (fun (r : Str × Str × Str) v => ∃ q pw, v = V.ref q ∧ q ≠ D ∧ pw ≠ D ∧ H3 q = some (.tup [.str r.1, .ref pw]) ∧ H3 pw = some (.lst ((way sea rows r.2.1 r.2.2).map V.str))) rts acc) := by
      refine lcR rts (fun D r v H3 => ∃ q pw, v = V.ref q ∧ q ≠ D ∧ pw ≠ D ∧ H3 q = some (.tup [.str r.1, .ref pw]) ∧ H3 pw = some (.lst ((way sea rows r.2.1 r.2.2).map V.str))) (fun D r v H4 H5 e ⟨q, pw, z1, z2, z3, z4, z5⟩ => ⟨q, pw, z1, z2, z3, e _ _ z2 z4, e _ _ z3 z5⟩) (src_len (src_list (ev_var rfl) (sq_of hg1)) (by simp [hgl])) (by omega) (fun j r v H3 D acc hy e3 hD hI => ?_)
      obtain ⟨p', rfl, hp'⟩ := refs_get hI
      obtain ⟨r', hr1', hr2'⟩ := paired_get hg2 hp'
      rw [hy] at hr1'
      cases hr1'
      have hrm : r ∈ rts := List.mem_of_getElem? hy
      refine ⟨_, tgt_name rfl, fun H4 e4 Q' q' => c_tup (c_two ?_)⟩
      have e34 := e3.trans e4
      refine (ev_ixT (v := .str r.1) (ev_var rfl) ev_c (st_of (e34 _ _ hr2')) (at_nat (n := 0) rfl)) H4 (Ex.refl H4) _ fun H5 e5 => ?_
      refine c_call2 (ev_var (v := .ref pr) rfl) (ev_var (v := .ref p') rfl) fun H6 e6 => ⟨pr, p', r.1, r.2.1, r.2.2, rows, rfl, hA10.ex (e34.trans (e5.trans e6)), hrok, (e34.trans (e5.trans e6)) _ _ hr2', (hok.good.ok r hrm).1, (hok.good.ok r hrm).2, fun pw H7 npw e7 hpw => ⟨sz_of (by simp), fun q nq => ?_⟩⟩
      have e47 : Ex H4 H7 := (e5.trans e6).trans e7
      have hD7 : H7 D = some (.lst acc) := (e4.trans e47) _ _ hD
      have hDw : pw ≠ D := fun z => by rw [z, (e4.trans (e5.trans e6)) _ _ hD] at npw; cases npw
      have hDq : q ≠ D := fun z => by rw [z, hD7] at nq; cases nq
      have hqw : pw ≠ q := fun z => by rw [← z, hpw] at nq; cases nq
      exact q' _ _ (e47.trans (Ex.new nq)) ⟨q, pw, rfl, hDq, hDw, upd_same, by rw [upd_ne hqw]; exact hpw⟩
    refine q_asgC (c_cb (c_one (hL H10 (Ex.refl H10) _ fun D acc H11 nD e11 hacc ⟨D', hp⟩ => ?_)))
    obtain ⟨ps, kvs, rfl, k1, k2, k3⟩ := ways_of hp
    have knd : (kvs.map (·.1)).Nodup := by
      rw [k2]
      exact List.pairwise_map.mpr (hok.good.nd.imp fun h e => h (Sum.inr.inj e))
    refine ⟨D, ps, kvs, rfl, sq_of hacc, Paired.mapP k1 fun p kv z => st_of z, fun d nd => ?_⟩
    rw [mergeK_nil knd]
    have hDof : DOf H11 kvs (nms rts) (fun n => IsL (wyS rows rts n)) := ⟨k2, fun n v hmem => by
      obtain ⟨r, hr, e, z⟩ := k3 n v hmem
      subst e
      unfold wyS
      rw [wyOf_of hok.good hr]
      exact z⟩
    have hA11 := hA10.ex e11
    have hG11 := hG.ex e11
    have t11 := tN10.ext e11
    have N11 : ExtN H H11 := N10.trans (ExtN.of e11)
    -- told
    refine q_lock (u := .dK kvs) upd_same trivial fun od => s_asgC (c_make (c_two (c_make (c_one ?_))))
    have exl : Ex H11 (upd (upd H11 d (.dK kvs)) d (.frz od (.dK kvs))) := fun b o hb => by
      rw [upd_ne (ne_of_none hb nd), upd_ne (ne_of_none hb nd)]
      exact hb
    have hd0 : (upd (upd H11 d (.dK kvs)) d (.frz od (.dK kvs))) d = some (.frz od (.dK kvs)) := upd_same
    generalize upd (upd H11 d (.dK kvs)) d (.frz od (.dK kvs)) = Hl at *
    refine (ev_var (v := .ref pr) rfl) Hl (Ex.refl Hl) _ fun H12 e12 x dx nx ndx nxd => ?_
    have exx : ∀ {H0 : Hp} {x dx : Addr} {o o' : HO}, H0 x = none → H0 dx = none → Ex H0 (upd (upd H0 dx o) x o') := fun n1 n2 b o hb => by
      rw [upd_ne (ne_of_none hb n1), upd_ne (ne_of_none hb n2)]
      exact hb
    have e12x : Ex Hl (upd (upd H12 dx (.own x)) x (.ins A.cV dx [])) := e12.trans (exx nx ndx)
    refine ⟨x, dx, pr, rows, rfl, upd_same, hA11.ex (exl.trans e12x), hrok, fun H13 e13 hRv => ⟨rfl, ?_⟩⟩
    have el13 : Ex Hl H13 := fun b o hb => e13 b o (fun z => by rw [z, ] at hb; rw [e12 _ _ hb] at nx; cases nx) (e12x b o hb)
    refine (ev_var (v := .ref rg) rfl) H13 (Ex.refl H13) _ fun H14 e14 x2 dx2 nx2 ndx2 nxd2 => ?_
    have e14x : Ex H13 (upd (upd H14 dx2 (.own x2)) x2 (.ins A.cR dx2 [])) := e14.trans (exx nx2 ndx2)
    have hxx : x ≠ x2 := by
      obtain ⟨_, _, _, _, _, z, _⟩ := id hRv
      exact fun e => by rw [← e, e14 _ _ z] at nx2; cases nx2
    refine ⟨x2, dx2, x, rg, rows, rts, rfl, upd_same, hxx, hRv.ex e14x, hrok, hG11.ex ((exl.trans el13).trans e14x), hok, fun H15 e15 hRt => ⟨rfl, ?_⟩⟩
    have el15 : Ex Hl H15 := fun b o hb => e15 b o (fun z => by rw [z] at hb; rw [(el13.trans e14) _ _ hb] at nx2; cases nx2) ((el13.trans e14x) b o hb)
    have hd15 := el15 _ _ hd0
    refine ⟨hd15, ?_⟩
    have RtsE := hRt.extF (er_extF hd15)
    have e11_15 : Ex H11 H15 := exl.trans el15
    -- the two turns
    refine q_lock (u := .dK kvs) upd_same trivial fun od2 => ?_
    have em : ∀ b o, b ≠ d → H15 b = some o → (upd (upd H15 d (.dK kvs)) d (.frz od2 (.dK kvs))) b = some o := fun b o n hb => by
      rw [upd_ne n, upd_ne n]
      exact hb
    have hdm : (upd (upd H15 d (.dK kvs)) d (.frz od2 (.dK kvs))) d = some (.frz od2 (.dK kvs)) := upd_same
    generalize upd (upd H15 d (.dK kvs)) d (.frz od2 (.dK kvs)) = Hm at *
    have e11m : Ex H11 Hm := fun b o hb => em b o (ne_of_none hb nd) (e11_15 b o hb)
    have hRm : RtsAt A Hm x2 rows rts := RtsE.ex (er_ex em)
    have hAm := hA11.ex e11m
    have hWm : WaysAt Hm d rows rts := ⟨od2, kvs, hdm, hDof.mono fun _ _ z => z.ex e11m⟩
    have tm := t11.ext e11m
    have hbn : IsNm (bestOf rows rts) := by
      obtain ⟨ws, ews⟩ := w0_cons hrok
      refine weir_nm hrok ?_
      unfold bestOf
      rcases best_mem (wy := wyS rows rts) (ns := nms rts) (wns rows) (w0Of rows) with h | h
      · rw [h, ews]; exact List.mem_cons_self
      · exact h
    have hpn : ∀ s ∈ pass (wyS rows rts) (nms rts) (bestOf rows rts), IsNm s := fun s hs => right_nm hok (List.mem_filter.mp hs).1
    refine s_forR1 (n := 2) (ea_cons ev_c ea_nil) (by decide)
      (fun j σ' H' => ∃ (v7 : Option V), σ' = [some (.ref a), some (.int (i : Int)), some (.ref g), some (.ref pr), some (.ref rg), some (.ref d), some (.ref x2), v7, none] ∧ ExtN Hm H' ∧ Tabs (tabs A) H')
      (fun H16 e16 => ⟨v7, rfl, ExtN.of e16, tm.ext e16⟩) ?_ ?_
    · rintro j σ' H16 hj ⟨v7', rfl, M16, t16⟩
      refine q_ifC (c_or (et_test (ev_neD (d := pD (bestOf rows rts) (pass (wyS rows rts) (nms rts) (bestOf rows rts))) (e := pD (bestOf rows rts) (pass (wyS rows rts) (nms rts) (bestOf rows rts)))
        ((ep_call (P := IsP (bestOf rows rts) (pass (wyS rows rts) (nms rts) (bestOf rows rts))) (ea_p (ea_cons (ev_var (v := .ref x2) rfl) ea_nil)) fun vs H17 e17 hvs Q' q' => by
          subst hvs
          exact ⟨x2, rows, rts, rfl, (hRm.extN M16).ex e17, hrok, hok, q'⟩).imp fun v H' _ z => z.dp)
        ((ep_lfull (ev_var (v := .ref pr) rfl) (ev_var (v := .ref d) rfl) (hAm.extN M16) (hWm.extN M16) hrok hok).imp fun v H' _ z => z.dp) (shaped_pD hbn hpn) (shaped_pD hbn hpn) (by rw [eqv_pD hbn hpn]; rfl))) fun H17 e17 => c_notB (c_call3 (ev_var (v := .ref x2) rfl) (ev_var (v := .ref pr) rfl) (ev_var (v := .ref d) rfl) fun H18 e18 => ?_))
      have M18 : ExtN Hm H18 := M16.trans (ExtN.of (e17.trans e18))
      refine ⟨x2, pr, d, rows, rts, rfl, hRm.extN M18, hAm.extN M18, hWm.extN M18, hrok, hok, t16.ext (e17.trans e18), fun v H19 M1819 t19 hv => ⟨true, hv, ?_⟩⟩
      have M19 := M18.trans M1819
      rw [if_neg (by decide)]
      refine q_ifC (c_notB (c_call3 (ev_var (v := .ref x2) rfl) (ev_var (v := .ref pr) rfl) (ev_var (v := .ref d) rfl) fun H20 e20 => ?_))
      have M20 : ExtN Hm H20 := M19.trans (ExtN.of e20)
      refine ⟨x2, pr, d, rows, rts, rfl, hRm.extN M20, hAm.extN M20, hWm.extN M20, hrok, hok, t19.ext e20, fun v H21 M2021 t21 hv => ⟨true, hv, ?_⟩⟩
      have M21 := M20.trans M2021
      rw [if_neg (by decide)]
      refine s_dropC (c_bm (c_call1 (ev_var (v := .ref x2) rfl) fun H22 e22 => ?_))
      have M22 : ExtN Hm H22 := M21.trans (ExtN.of e22)
      refine ⟨x2, rows, rts, rfl, hRm.extN M22, hrok, hok, t21.ext e22, fun v H23 M2223 t23 ⟨p, ev, np, ht⟩ => ?_⟩
      subst ev
      have M23 := M22.trans M2223
      obtain ⟨qs, hq1, hq2⟩ := id ht
      refine ⟨.inl ⟨rfl, _, sq_of hq1⟩, c_one (c_tup (c_one ((ev_c (σ := [some (.ref a), some (.int (i : Int)), some (.ref g), some (.ref pr), some (.ref rg), some (.ref d), some (.ref x2), some (.int (j : Int)), none]) (v := .str "late")) H23 (Ex.refl H23) _ fun H24 e24 => ⟨sz_of (by simp), fun q nq => ?_⟩)))⟩
      have hp24 : (upd H24 q (.tup [.str "late"])) p = some (.lst (qs.map V.ref)) := by
        have := e24 _ _ hq1
        rw [upd_ne (ne_of_none this nq)]
        exact this
      have M24 : ExtN Hm (upd H24 q (.tup [.str "late"])) := M23.trans (ExtN.of (e24.trans (Ex.new nq)))
      have hql : qs.length ≤ 40 := by rw [paired_len hq2]; exact told_len40 hok
      refine ⟨p, _, .ref q, rfl, rfl, hp24, sz_lt (by rw [List.length_map]; omega), _, rfl, ExtN.mutN M24 (np.back M22), tabs_up (t23.ext (e24.trans (Ex.new nq))) hp24 nofun (fun c q z => by unfold CodeO at z; cases z)⟩
    · rintro σ' H16 ⟨v7', rfl, M16, t16⟩
      have hd16 := M16 d _ hdm nofun
      refine ⟨hd16, ?_⟩
      have M15 : ∀ b o, b ≠ d → H15 b = some o → (∀ ps, o ≠ .tbl ps) → (upd H16 d (.dK kvs)) b = some o := fun b o n hb nt => by
        rw [upd_ne n]
        exact M16 b o (em b o n hb) nt
      have hR17 : RtsAt A (upd H16 d (.dK kvs)) x2 rows rts := RtsE.extN (er_extN M15)
      have N17 : ExtN H11 (upd H16 d (.dK kvs)) := fun b o hb nt => M15 b o (ne_of_none hb nd) (e11_15 b o hb) nt
      have t17 : Tabs (tabs A) (upd H16 d (.dK kvs)) := tabs_up t16 hd16 nofun (fun c q z => by unfold CodeO at z; cases z)
      have hA17 := hA11.extN N17
      have hG17 := hG11.extN N17
      have NN := N11.trans N17
      generalize upd H16 d (.dK kvs) = H17 at *
      obtain ⟨dx3, pr3, an3, ae3, aw3, as3, ke3, kw3, ks3, i1, i2, _⟩ := id hR17
      refine s_when (b := false) (et_or (a := false) (b := false) (et_test (ev_neD (d := ttD (rghT rts)) (e := ttD (rghT rts)) ((ep_meth (P := fun v H' => ∃ a, v = .ref a ∧ RghAt H' a rts) (ev_var (v := .ref x2) rfl) i1 (flR_rows _ _ _ _ _) eap_nil fun vs H18 e18 hvs Q' q' => ?_).imp fun v H' _ ⟨a, z1, z2⟩ => by rw [z1]; exact z2.tt.dp)
        ((ep_of (ev_var (v := .ref rg) rfl)).imp fun v H' e z => by subst z; exact (hG17.ex e).tt.dp) (shaped_tt (rghT_nm hrok hok)) (shaped_tt (rghT_nm hrok hok)) (by rw [eqv_tt (rghT_nm hrok hok)]; rfl)))
        fun _ => et_test (ev_neD (d := ttD (rowT rows)) (e := ttD (rowT rows)) (?_ : EvP _ _ _ _)
        ((ep_of (ev_var (v := .ref pr) rfl)).imp fun v H' e z => by subst z; exact (hA17.ex e).tt.dp) (shaped_tt (rowT_nm hrok)) (shaped_tt (rowT_nm hrok)) (by rw [eqv_tt (rowT_nm hrok)]; rfl))) (fun h => nomatch h) (fun _ H18 e18 => ⟨_, _, _, _, _, _, _, rfl, NN.trans (ExtN.of e18), t17.ext e18⟩)
      · subst hvs
        exact ⟨x2, rows, rts, rfl, hR17.ex e18, hok, q'⟩
      · obtain ⟨dy, vw, vl, vc, kc, g1, g2, g3, g4, g5⟩ := id i2
        refine (ep_meth (P := fun v H' => ∃ a, v = .ref a ∧ RowsAt H' a rows) (ev_fld (ev_var (v := .ref x2) rfl) i1 T.clR T.nR_river (flR_river _ _ _ _ _)) g1 (by unfold flV; kernel_rfl) eap_nil fun vs H18 e18 hvs Q' q' => ?_).imp fun v H' _ ⟨a, z1, z2⟩ => by rw [z1]; exact z2.tt.dp
        subst hvs
        exact ⟨pr3, rows, rfl, i2.ex e18, hrok, q'⟩
end
end Wk

/-! What the top has written, gathered. -/
namespace Wk
open PySem PySem.Spec PyProof.Rows L2 Evl LamX
/-- a def of the module's top -/
def DefAt (K : PySem.W.Frag) (x qual : Str) (st : Stmt) : Prop := ∃ (f : Addr) (fd : FuncData), PySem.W.nsIn K mainGlobals x = some (some (.ref f)) ∧ Fun K x qual st f fd
/-- a method of the class at C -/
def MetAt (K : PySem.W.Frag) (C : Addr) (x qual : Str) (st : Stmt) : Prop := ∃ (f : Addr) (fd : FuncData), PySem.W.findIn K (.ref C) x = some (some (.ref f)) ∧ PySem.W.isFn K (.ref f) = true ∧ Fun K x qual st f fd
/-- the def that makes a lambda: its code object, the table -/
def LamAt (K : PySem.W.Frag) (ts : List Addr) (x qual : Str) (st : Stmt) : Prop := ∃ (f : Addr) (fd : FuncData) (c P : Addr), PySem.W.nsIn K mainGlobals x = some (some (.ref f)) ∧ Fun K x qual st f fd ∧ FunC K x qual st f fd c ∧ P ∈ ts ∧ PySem.W.codeHdIn K c P = true ∧ K.lookup P = none
section
variable {K : PySem.W.Frag} {x qual : Str} {st : Stmt} {f C : Addr} {oc : Value} {od an : Option Addr} {osl : Array (Option Value)} {kV doc pm cdv ct : Value}
theorem def_mk (a : PySem.W.nsIn K mainGlobals x = some (some (.ref f))) (l : K.lookup f = some ⟨oc, od, .func (PySem.W.fnOf x qual (defArgs st) (defBody st) (defScope st) .none kV doc pm an cdv ct), osl⟩) (c : PySem.W.codeIn K cdv qual = true) (k : PySem.W.keepIn K (.ref f) = true) : DefAt K x qual st := ⟨f, _, a, fun_mk l c k⟩
theorem met_mk (a : PySem.W.findIn K (.ref C) x = some (some (.ref f))) (i : PySem.W.isFn K (.ref f) = true) (l : K.lookup f = some ⟨oc, od, .func (PySem.W.fnOf x qual (defArgs st) (defBody st) (defScope st) .none kV doc pm an cdv ct), osl⟩) (c : PySem.W.codeIn K cdv qual = true) (k : PySem.W.keepIn K (.ref f) = true) : MetAt K C x qual st := ⟨f, _, a, i, fun_mk l c k⟩
theorem lam_mk {ts : List Addr} {c P : Addr} (p : P ∈ ts) (a : PySem.W.nsIn K mainGlobals x = some (some (.ref f))) (l : K.lookup f = some ⟨oc, od, .func (PySem.W.fnOf x qual (defArgs st) (defBody st) (defScope st) .none kV doc pm an (.ref c) ct), osl⟩) (cd : PySem.W.codeIn K (.ref c) qual = true) (k : PySem.W.keepIn K (.ref f) = true) (hd : PySem.W.codeHdIn K c P = true) (n : K.lookup P = none) : LamAt K ts x qual st := ⟨f, _, c, P, a, fun_mk l cd k, func_mk l cd, p, hd, n⟩
end
theorem bnMeet {K : PySem.W.Frag} {f : Addr} {fd : FuncData} (F : Fun K "meet" "meet" sMeet f fd) : Binds K fd ["rights", "one", "other"] [] := F.binds (ps := ["rights", "one", "other"]) fun _ _ _ _ _ _ us hl => match us, hl with | [_, _, _], _ => rfl
theorem bnMetBy {K : PySem.W.Frag} {f : Addr} {fd : FuncData} (F : Fun K "met_by" "met_by" sMetBy f fd) : Binds K fd ["rights", "name"] [] := F.binds (ps := ["rights", "name"]) fun _ _ _ _ _ _ us hl => match us, hl with | [_, _], _ => rfl
theorem bnRemNames {K : PySem.W.Frag} {f : Addr} {fd : FuncData} (F : Fun K "removal_names" "removal_names" sRemNames f fd) : Binds K fd ["rights"] [] := F.binds (ps := ["rights"]) fun _ _ _ _ _ _ us hl => match us, hl with | [_], _ => rfl
theorem bnFullest {K : PySem.W.Frag} {f : Addr} {fd : FuncData} (F : Fun K "fullest" "fullest" sFullest f fd) : Binds K fd ["rights"] [] := F.binds (ps := ["rights"]) fun _ _ _ _ _ _ us hl => match us, hl with | [_], _ => rfl
theorem bnTurns {K : PySem.W.Frag} {f : Addr} {fd : FuncData} (F : Fun K "turns" "turns" sTurns f fd) : Binds K fd ["rights"] [] := F.binds (ps := ["rights"]) fun _ _ _ _ _ _ us hl => match us, hl with | [_], _ => rfl
theorem bnApart {K : PySem.W.Frag} {f : Addr} {fd : FuncData} (F : Fun K "apart" "apart" sApart f fd) : Binds K fd ["rights"] [] := F.binds (ps := ["rights"]) fun _ _ _ _ _ _ us hl => match us, hl with | [_], _ => rfl
theorem bnGuards {K : PySem.W.Frag} {f : Addr} {fd : FuncData} (F : Fun K "guards" "guards" sGuards f fd) : Binds K fd ["rights"] [] := F.binds (ps := ["rights"]) fun _ _ _ _ _ _ us hl => match us, hl with | [_], _ => rfl
theorem bnIsName {K : PySem.W.Frag} {f : Addr} {fd : FuncData} (F : Fun K "is_name" "is_name" sIsName f fd) : Binds K fd ["value"] [] := F.binds (ps := ["value"]) fun _ _ _ _ _ _ us hl => match us, hl with | [_], _ => rfl
theorem bnWrongRow {K : PySem.W.Frag} {f : Addr} {fd : FuncData} (F : Fun K "is_wrong_row" "is_wrong_row" sWrongRow f fd) : Binds K fd ["entry", "earlier"] [] := F.binds (ps := ["entry", "earlier"]) fun _ _ _ _ _ _ us hl => match us, hl with | [_, _], _ => rfl
theorem bnReaches {K : PySem.W.Frag} {f : Addr} {fd : FuncData} (F : Fun K "reaches_sea" "reaches_sea" sReaches f fd) : Binds K fd ["weir", "lower"] [] := F.binds (ps := ["weir", "lower"]) fun _ _ _ _ _ _ us hl => match us, hl with | [_, _], _ => rfl
theorem bnRivFault {K : PySem.W.Frag} {f : Addr} {fd : FuncData} (F : Fun K "river_fault" "river_fault" sRivFault f fd) : Binds K fd ["rows"] [] := F.binds (ps := ["rows"]) fun _ _ _ _ _ _ us hl => match us, hl with | [_], _ => rfl
theorem bnCourseOf {K : PySem.W.Frag} {f : Addr} {fd : FuncData} (F : Fun K "course_of" "course_of" sCourseOf f fd) : Binds K fd ["weir", "lower"] [] := F.binds (ps := ["weir", "lower"]) fun _ _ _ _ _ _ us hl => match us, hl with | [_, _], _ => rfl
theorem bnVInit {K : PySem.W.Frag} {f : Addr} {fd : FuncData} (F : Fun K "__init__" "River.__init__" sVInit f fd) : Binds K fd ["self", "rows"] [] := F.binds (ps := ["self", "rows"]) fun _ _ _ _ _ _ us hl => match us, hl with | [_, _], _ => rfl
theorem bnVNeed {K : PySem.W.Frag} {f : Addr} {fd : FuncData} (F : Fun K "need" "River.need" sVNeed f fd) : Binds K fd ["self", "weir"] [] := F.binds (ps := ["self", "weir"]) fun _ _ _ _ _ _ us hl => match us, hl with | [_, _], _ => rfl
theorem bnVRows {K : PySem.W.Frag} {f : Addr} {fd : FuncData} (F : Fun K "rows" "River.rows" sVRows f fd) : Binds K fd ["self"] [] := F.binds (ps := ["self"]) fun _ _ _ _ _ _ us hl => match us, hl with | [_], _ => rfl
theorem bnVCourse {K : PySem.W.Frag} {f : Addr} {fd : FuncData} (F : Fun K "course" "River.course" sVCourse f fd) : Binds K fd ["self", "weir"] [] := F.binds (ps := ["self", "weir"]) fun _ _ _ _ _ _ us hl => match us, hl with | [_, _], _ => rfl
theorem bnVDepth {K : PySem.W.Frag} {f : Addr} {fd : FuncData} (F : Fun K "depth" "River.depth" sVDepth f fd) : Binds K fd ["self", "weir"] [] := F.binds (ps := ["self", "weir"]) fun _ _ _ _ _ _ us hl => match us, hl with | [_, _], _ => rfl
theorem bnVIsDown {K : PySem.W.Frag} {f : Addr} {fd : FuncData} (F : Fun K "is_down" "River.is_down" sVIsDown f fd) : Binds K fd ["self", "high", "low"] [] := F.binds (ps := ["self", "high", "low"]) fun _ _ _ _ _ _ us hl => match us, hl with | [_, _, _], _ => rfl
theorem bnVWay {K : PySem.W.Frag} {f : Addr} {fd : FuncData} (F : Fun K "way" "River.way" sVWay f fd) : Binds K fd ["self", "intake", "last"] [] := F.binds (ps := ["self", "intake", "last"]) fun _ _ _ _ _ _ us hl => match us, hl with | [_, _, _], _ => rfl
theorem bnWrongRight {K : PySem.W.Frag} {f : Addr} {fd : FuncData} (F : Fun K "is_wrong_right" "is_wrong_right" sWrongRight f fd) : Binds K fd ["river", "entry", "earlier"] [] := F.binds (ps := ["river", "entry", "earlier"]) fun _ _ _ _ _ _ us hl => match us, hl with | [_, _, _], _ => rfl
theorem bnRtsFault {K : PySem.W.Frag} {f : Addr} {fd : FuncData} (F : Fun K "rights_fault" "rights_fault" sRtsFault f fd) : Binds K fd ["river", "rows"] [] := F.binds (ps := ["river", "rows"]) fun _ _ _ _ _ _ us hl => match us, hl with | [_, _], _ => rfl
theorem bnRInit {K : PySem.W.Frag} {f : Addr} {fd : FuncData} (F : Fun K "__init__" "Rights.__init__" sRInit f fd) : Binds K fd ["self", "river", "rows"] [] := F.binds (ps := ["self", "river", "rows"]) fun _ _ _ _ _ _ us hl => match us, hl with | [_, _, _], _ => rfl
theorem bnRNeed {K : PySem.W.Frag} {f : Addr} {fd : FuncData} (F : Fun K "need" "Rights.need" sRNeed f fd) : Binds K fd ["self", "name"] [] := F.binds (ps := ["self", "name"]) fun _ _ _ _ _ _ us hl => match us, hl with | [_, _], _ => rfl
theorem bnRRows {K : PySem.W.Frag} {f : Addr} {fd : FuncData} (F : Fun K "rows" "Rights.rows" sRRows f fd) : Binds K fd ["self"] [] := F.binds (ps := ["self"]) fun _ _ _ _ _ _ us hl => match us, hl with | [_], _ => rfl
theorem bnRLast {K : PySem.W.Frag} {f : Addr} {fd : FuncData} (F : Fun K "last" "Rights.last" sRLast f fd) : Binds K fd ["self", "name"] [] := F.binds (ps := ["self", "name"]) fun _ _ _ _ _ _ us hl => match us, hl with | [_, _], _ => rfl
theorem bnRWay {K : PySem.W.Frag} {f : Addr} {fd : FuncData} (F : Fun K "way" "Rights.way" sRWay f fd) : Binds K fd ["self", "name"] [] := F.binds (ps := ["self", "name"]) fun _ _ _ _ _ _ us hl => match us, hl with | [_, _], _ => rfl
theorem bnRPassing {K : PySem.W.Frag} {f : Addr} {fd : FuncData} (F : Fun K "passing" "Rights.passing" sRPassing f fd) : Binds K fd ["self", "weir"] [] := F.binds (ps := ["self", "weir"]) fun _ _ _ _ _ _ us hl => match us, hl with | [_, _], _ => rfl
theorem bnLBag {K : PySem.W.Frag} {f : Addr} {fd : FuncData} (F : Fun K "_law_bag" "_law_bag" sLBag f fd) : Binds K fd ["_law_script", "_law_at", "_law_salt"] [] := F.binds (ps := ["_law_script", "_law_at", "_law_salt"]) fun _ _ _ _ _ _ us hl => match us, hl with | [_, _, _], _ => rfl
theorem bnLTake {K : PySem.W.Frag} {f : Addr} {fd : FuncData} (F : Fun K "_law_take" "_law_take" sLTake f fd) : Binds K fd ["_law_bag_here", "_law_many"] [] := F.binds (ps := ["_law_bag_here", "_law_many"]) fun _ _ _ _ _ _ us hl => match us, hl with | [_, _], _ => rfl
theorem bnLOf {K : PySem.W.Frag} {f : Addr} {fd : FuncData} (F : Fun K "_law_of" "_law_of" sLOf f fd) : Binds K fd ["_law_bag_here", "_law_some"] [] := F.binds (ps := ["_law_bag_here", "_law_some"]) fun _ _ _ _ _ _ us hl => match us, hl with | [_, _], _ => rfl
theorem bnLMixed {K : PySem.W.Frag} {f : Addr} {fd : FuncData} (F : Fun K "_law_mixed" "_law_mixed" sLMixed f fd) : Binds K fd ["_law_bag_here", "_law_some"] [] := F.binds (ps := ["_law_bag_here", "_law_some"]) fun _ _ _ _ _ _ us hl => match us, hl with | [_, _], _ => rfl
theorem bnLNames {K : PySem.W.Frag} {f : Addr} {fd : FuncData} (F : Fun K "_law_names" "_law_names" sLNames f fd) : Binds K fd ["_law_bag_here", "_law_many"] [] := F.binds (ps := ["_law_bag_here", "_law_many"]) fun _ _ _ _ _ _ us hl => match us, hl with | [_, _], _ => rfl
theorem bnLRiver {K : PySem.W.Frag} {f : Addr} {fd : FuncData} (F : Fun K "_law_river" "_law_river" sLRiver f fd) : Binds K fd ["_law_bag_here", "_law_many"] [] := F.binds (ps := ["_law_bag_here", "_law_many"]) fun _ _ _ _ _ _ us hl => match us, hl with | [_, _], _ => rfl
theorem bnLCourse {K : PySem.W.Frag} {f : Addr} {fd : FuncData} (F : Fun K "_law_course" "_law_course" sLCourse f fd) : Binds K fd ["_law_rows", "_law_weir"] [] := F.binds (ps := ["_law_rows", "_law_weir"]) fun _ _ _ _ _ _ us hl => match us, hl with | [_, _], _ => rfl
theorem bnLRightNames {K : PySem.W.Frag} {f : Addr} {fd : FuncData} (F : Fun K "_law_right_names" "_law_right_names" sLRightNames f fd) : Binds K fd ["_law_bag_here", "_law_rows", "_law_many"] [] := F.binds (ps := ["_law_bag_here", "_law_rows", "_law_many"]) fun _ _ _ _ _ _ us hl => match us, hl with | [_, _, _], _ => rfl
theorem bnLRights {K : PySem.W.Frag} {f : Addr} {fd : FuncData} (F : Fun K "_law_rights" "_law_rights" sLRights f fd) : Binds K fd ["_law_bag_here", "_law_rows", "_law_many"] [] := F.binds (ps := ["_law_bag_here", "_law_rows", "_law_many"]) fun _ _ _ _ _ _ us hl => match us, hl with | [_, _, _], _ => rfl
theorem bnLWay {K : PySem.W.Frag} {f : Addr} {fd : FuncData} (F : Fun K "_law_way" "_law_way" sLWay f fd) : Binds K fd ["_law_rows", "_law_right"] [] := F.binds (ps := ["_law_rows", "_law_right"]) fun _ _ _ _ _ _ us hl => match us, hl with | [_, _], _ => rfl
theorem bnLMeets {K : PySem.W.Frag} {f : Addr} {fd : FuncData} (F : Fun K "_law_meets" "_law_meets" sLMeets f fd) : Binds K fd ["_law_ways", "_law_one", "_law_other"] [] := F.binds (ps := ["_law_ways", "_law_one", "_law_other"]) fun _ _ _ _ _ _ us hl => match us, hl with | [_, _, _], _ => rfl
theorem bnLRemoval {K : PySem.W.Frag} {f : Addr} {fd : FuncData} (F : Fun K "_law_removal" "_law_removal" sLRemoval f fd) : Binds K fd ["_law_rows", "_law_ways"] [] := F.binds (ps := ["_law_rows", "_law_ways"]) fun _ _ _ _ _ _ us hl => match us, hl with | [_, _], _ => rfl
theorem bnLFullest {K : PySem.W.Frag} {f : Addr} {fd : FuncData} (F : Fun K "_law_fullest" "_law_fullest" sLFullest f fd) : Binds K fd ["_law_rows", "_law_ways"] [] := F.binds (ps := ["_law_rows", "_law_ways"]) fun _ _ _ _ _ _ us hl => match us, hl with | [_, _], _ => rfl
theorem bnLTurnsRight {K : PySem.W.Frag} {f : Addr} {fd : FuncData} (F : Fun K "_law_turns_right" "_law_turns_right" sLTurnsRight f fd) : Binds K fd ["_law_told", "_law_rows", "_law_ways"] [] := F.binds (ps := ["_law_told", "_law_rows", "_law_ways"]) fun _ _ _ _ _ _ us hl => match us, hl with | [_, _, _], _ => rfl
theorem bnLApartRight {K : PySem.W.Frag} {f : Addr} {fd : FuncData} (F : Fun K "_law_apart_right" "_law_apart_right" sLApartRight f fd) : Binds K fd ["_law_told", "_law_rows", "_law_ways"] [] := F.binds (ps := ["_law_told", "_law_rows", "_law_ways"]) fun _ _ _ _ _ _ us hl => match us, hl with | [_, _, _], _ => rfl
theorem bnLaw {K : PySem.W.Frag} {f : Addr} {fd : FuncData} (F : Fun K "law" "law" sLaw f fd) : Binds K fd ["_law_script"] [] := F.binds (ps := ["_law_script"]) fun _ _ _ _ _ _ us hl => match us, hl with | [_], _ => rfl
theorem all_mk {l : PySem.W.OpenLaw} {w : World} {K : PySem.W.Frag} {h : Heap} {mg : Str → Option Value} {fa : Addr} {ts : List Addr} (X : K.In h) (G : h.Ns mainGlobals mg) (hfa : mg "law" = some (.ref fa)) (hT : ∀ P ∈ ts, h.get? P = some { cls := .none, data := .fields #[] }) {cV cR : Addr} {t1 t2 t3 : Tok}
    (aV : PySem.W.nsIn K mainGlobals "River" = some (some (.ref cV))) (aR : PySem.W.nsIn K mainGlobals "Rights" = some (some (.ref cR)))
    (pgV : PySem.W.plainGet K cV Str.empty = true) (hdV : PySem.W.hasDictIn K cV = true) (poV : PySem.W.plainOver K cV = true) (saV : PySem.W.findIn K (.ref cV) "__setattr__" = some (some (.builtin "object.__setattr__"))) (mkV : PySem.W.makesIn K cV = true) (kcV : PySem.W.keepIn K (.ref cV) = true)
    (pgR : PySem.W.plainGet K cR Str.empty = true) (hdR : PySem.W.hasDictIn K cR = true) (poR : PySem.W.plainOver K cR = true) (saR : PySem.W.findIn K (.ref cR) "__setattr__" = some (some (.builtin "object.__setattr__"))) (mkR : PySem.W.makesIn K cR = true) (kcR : PySem.W.keepIn K (.ref cR) = true)
    (nVweirs : PySem.W.findIn K (.ref cV) "weirs" = some none)
    (nVlower : PySem.W.findIn K (.ref cV) "lower" = some none)
    (nVcourses : PySem.W.findIn K (.ref cV) "courses" = some none)
    (nRriver : PySem.W.findIn K (.ref cR) "river" = some none)
    (nRnames : PySem.W.findIn K (.ref cR) "names" = some none)
    (nRentries : PySem.W.findIn K (.ref cR) "entries" = some none)
    (nRways : PySem.W.findIn K (.ref cR) "ways" = some none)
    (nRstops : PySem.W.findIn K (.ref cR) "stops" = some none)
    (zlen : PySem.W.nsIn K mainGlobals "len" = some none)
    (zisinstance : PySem.W.nsIn K mainGlobals "isinstance" = some none)
    (zall : PySem.W.nsIn K mainGlobals "all" = some none)
    (zany : PySem.W.nsIn K mainGlobals "any" = some none)
    (ztuple : PySem.W.nsIn K mainGlobals "tuple" = some none)
    (zlist : PySem.W.nsIn K mainGlobals "list" = some none)
    (zsorted : PySem.W.nsIn K mainGlobals "sorted" = some none)
    (zenumerate : PySem.W.nsIn K mainGlobals "enumerate" = some none)
    (zrange : PySem.W.nsIn K mainGlobals "range" = some none)
    (zdict : PySem.W.nsIn K mainGlobals "dict" = some none)
    (zint : PySem.W.nsIn K mainGlobals "int" = some none)
    (zabs : PySem.W.nsIn K mainGlobals "abs" = some none)
    (zmax : PySem.W.nsIn K mainGlobals "max" = some none)
    (zmin : PySem.W.nsIn K mainGlobals "min" = some none)
    (zstr : PySem.W.nsIn K mainGlobals "str" = some none)
    (m1 : PySem.W.nsIn K mainGlobals "MOST_WEIRS" = some (some (.int 40 t1))) (m2 : PySem.W.nsIn K mainGlobals "MOST_RIGHTS" = some (some (.int 40 t2))) (m3 : PySem.W.nsIn K mainGlobals "LETTERS" = some (some (.str "abcdefghijklmnopqrstuvwxyz" t3)))
    (hMeet : DefAt K "meet" "meet" sMeet)
    (hMetBy : DefAt K "met_by" "met_by" sMetBy)
    (hRemNames : LamAt K ts "removal_names" "removal_names" sRemNames)
    (hFullest : DefAt K "fullest" "fullest" sFullest)
    (hTurns : DefAt K "turns" "turns" sTurns)
    (hApart : DefAt K "apart" "apart" sApart)
    (hGuards : DefAt K "guards" "guards" sGuards)
    (hIsName : DefAt K "is_name" "is_name" sIsName)
    (hWrongRow : DefAt K "is_wrong_row" "is_wrong_row" sWrongRow)
    (hReaches : DefAt K "reaches_sea" "reaches_sea" sReaches)
    (hRivFault : DefAt K "river_fault" "river_fault" sRivFault)
    (hCourseOf : DefAt K "course_of" "course_of" sCourseOf)
    (hVInit : MetAt K cV "__init__" "River.__init__" sVInit)
    (hVNeed : MetAt K cV "need" "River.need" sVNeed)
    (hVRows : MetAt K cV "rows" "River.rows" sVRows)
    (hVCourse : MetAt K cV "course" "River.course" sVCourse)
    (hVDepth : MetAt K cV "depth" "River.depth" sVDepth)
    (hVIsDown : MetAt K cV "is_down" "River.is_down" sVIsDown)
    (hVWay : MetAt K cV "way" "River.way" sVWay)
    (hWrongRight : DefAt K "is_wrong_right" "is_wrong_right" sWrongRight)
    (hRtsFault : DefAt K "rights_fault" "rights_fault" sRtsFault)
    (hRInit : MetAt K cR "__init__" "Rights.__init__" sRInit)
    (hRNeed : MetAt K cR "need" "Rights.need" sRNeed)
    (hRRows : MetAt K cR "rows" "Rights.rows" sRRows)
    (hRLast : MetAt K cR "last" "Rights.last" sRLast)
    (hRWay : MetAt K cR "way" "Rights.way" sRWay)
    (hRPassing : MetAt K cR "passing" "Rights.passing" sRPassing)
    (hLBag : DefAt K "_law_bag" "_law_bag" sLBag)
    (hLTake : DefAt K "_law_take" "_law_take" sLTake)
    (hLOf : DefAt K "_law_of" "_law_of" sLOf)
    (hLMixed : DefAt K "_law_mixed" "_law_mixed" sLMixed)
    (hLNames : DefAt K "_law_names" "_law_names" sLNames)
    (hLRiver : DefAt K "_law_river" "_law_river" sLRiver)
    (hLCourse : DefAt K "_law_course" "_law_course" sLCourse)
    (hLRightNames : DefAt K "_law_right_names" "_law_right_names" sLRightNames)
    (hLRights : DefAt K "_law_rights" "_law_rights" sLRights)
    (hLWay : DefAt K "_law_way" "_law_way" sLWay)
    (hLMeets : DefAt K "_law_meets" "_law_meets" sLMeets)
    (hLRemoval : DefAt K "_law_removal" "_law_removal" sLRemoval)
    (hLFullest : DefAt K "_law_fullest" "_law_fullest" sLFullest)
    (hLTurnsRight : DefAt K "_law_turns_right" "_law_turns_right" sLTurnsRight)
    (hLApartRight : DefAt K "_law_apart_right" "_law_apart_right" sLApartRight)
    (hLaw : DefAt K "law" "law" sLaw)
    : LawAtS l w K L2.CX0 12 63 "_law_script" mg fa h := by
  obtain ⟨fMeet, dMeet, aMeet, FMeet⟩ := hMeet
  obtain ⟨fMetBy, dMetBy, aMetBy, FMetBy⟩ := hMetBy
  obtain ⟨fRemNames, dRemNames, cR0, pR0, aRemNames, FRemNames, FC, hP, hHd, hN⟩ := hRemNames
  obtain ⟨fFullest, dFullest, aFullest, FFullest⟩ := hFullest
  obtain ⟨fTurns, dTurns, aTurns, FTurns⟩ := hTurns
  obtain ⟨fApart, dApart, aApart, FApart⟩ := hApart
  obtain ⟨fGuards, dGuards, aGuards, FGuards⟩ := hGuards
  obtain ⟨fIsName, dIsName, aIsName, FIsName⟩ := hIsName
  obtain ⟨fWrongRow, dWrongRow, aWrongRow, FWrongRow⟩ := hWrongRow
  obtain ⟨fReaches, dReaches, aReaches, FReaches⟩ := hReaches
  obtain ⟨fRivFault, dRivFault, aRivFault, FRivFault⟩ := hRivFault
  obtain ⟨fCourseOf, dCourseOf, aCourseOf, FCourseOf⟩ := hCourseOf
  obtain ⟨fVInit, dVInit, aVInit, iVInit, FVInit⟩ := hVInit
  obtain ⟨fVNeed, dVNeed, aVNeed, iVNeed, FVNeed⟩ := hVNeed
  obtain ⟨fVRows, dVRows, aVRows, iVRows, FVRows⟩ := hVRows
  obtain ⟨fVCourse, dVCourse, aVCourse, iVCourse, FVCourse⟩ := hVCourse
  obtain ⟨fVDepth, dVDepth, aVDepth, iVDepth, FVDepth⟩ := hVDepth
  obtain ⟨fVIsDown, dVIsDown, aVIsDown, iVIsDown, FVIsDown⟩ := hVIsDown
  obtain ⟨fVWay, dVWay, aVWay, iVWay, FVWay⟩ := hVWay
  obtain ⟨fWrongRight, dWrongRight, aWrongRight, FWrongRight⟩ := hWrongRight
  obtain ⟨fRtsFault, dRtsFault, aRtsFault, FRtsFault⟩ := hRtsFault
  obtain ⟨fRInit, dRInit, aRInit, iRInit, FRInit⟩ := hRInit
  obtain ⟨fRNeed, dRNeed, aRNeed, iRNeed, FRNeed⟩ := hRNeed
  obtain ⟨fRRows, dRRows, aRRows, iRRows, FRRows⟩ := hRRows
  obtain ⟨fRLast, dRLast, aRLast, iRLast, FRLast⟩ := hRLast
  obtain ⟨fRWay, dRWay, aRWay, iRWay, FRWay⟩ := hRWay
  obtain ⟨fRPassing, dRPassing, aRPassing, iRPassing, FRPassing⟩ := hRPassing
  obtain ⟨fLBag, dLBag, aLBag, FLBag⟩ := hLBag
  obtain ⟨fLTake, dLTake, aLTake, FLTake⟩ := hLTake
  obtain ⟨fLOf, dLOf, aLOf, FLOf⟩ := hLOf
  obtain ⟨fLMixed, dLMixed, aLMixed, FLMixed⟩ := hLMixed
  obtain ⟨fLNames, dLNames, aLNames, FLNames⟩ := hLNames
  obtain ⟨fLRiver, dLRiver, aLRiver, FLRiver⟩ := hLRiver
  obtain ⟨fLCourse, dLCourse, aLCourse, FLCourse⟩ := hLCourse
  obtain ⟨fLRightNames, dLRightNames, aLRightNames, FLRightNames⟩ := hLRightNames
  obtain ⟨fLRights, dLRights, aLRights, FLRights⟩ := hLRights
  obtain ⟨fLWay, dLWay, aLWay, FLWay⟩ := hLWay
  obtain ⟨fLMeets, dLMeets, aLMeets, FLMeets⟩ := hLMeets
  obtain ⟨fLRemoval, dLRemoval, aLRemoval, FLRemoval⟩ := hLRemoval
  obtain ⟨fLFullest, dLFullest, aLFullest, FLFullest⟩ := hLFullest
  obtain ⟨fLTurnsRight, dLTurnsRight, aLTurnsRight, FLTurnsRight⟩ := hLTurnsRight
  obtain ⟨fLApartRight, dLApartRight, aLApartRight, FLApartRight⟩ := hLApartRight
  obtain ⟨fLaw, dLaw, aLaw, FLaw⟩ := hLaw
  have e := hfa.symm.trans (PySem.W.mg_of X G aLaw)
  cases e
  let A : Adr := {
    cV := cV, cR := cR, cR0 := cR0, pR0 := pR0,
    fMeet := fMeet, dMeet := dMeet,
    fMetBy := fMetBy, dMetBy := dMetBy,
    fRemNames := fRemNames, dRemNames := dRemNames,
    fFullest := fFullest, dFullest := dFullest,
    fTurns := fTurns, dTurns := dTurns,
    fApart := fApart, dApart := dApart,
    fGuards := fGuards, dGuards := dGuards,
    fIsName := fIsName, dIsName := dIsName,
    fWrongRow := fWrongRow, dWrongRow := dWrongRow,
    fReaches := fReaches, dReaches := dReaches,
    fRivFault := fRivFault, dRivFault := dRivFault,
    fCourseOf := fCourseOf, dCourseOf := dCourseOf,
    fVInit := fVInit, dVInit := dVInit,
    fVNeed := fVNeed, dVNeed := dVNeed,
    fVRows := fVRows, dVRows := dVRows,
    fVCourse := fVCourse, dVCourse := dVCourse,
    fVDepth := fVDepth, dVDepth := dVDepth,
    fVIsDown := fVIsDown, dVIsDown := dVIsDown,
    fVWay := fVWay, dVWay := dVWay,
    fWrongRight := fWrongRight, dWrongRight := dWrongRight,
    fRtsFault := fRtsFault, dRtsFault := dRtsFault,
    fRInit := fRInit, dRInit := dRInit,
    fRNeed := fRNeed, dRNeed := dRNeed,
    fRRows := fRRows, dRRows := dRRows,
    fRLast := fRLast, dRLast := dRLast,
    fRWay := fRWay, dRWay := dRWay,
    fRPassing := fRPassing, dRPassing := dRPassing,
    fLBag := fLBag, dLBag := dLBag,
    fLTake := fLTake, dLTake := dLTake,
    fLOf := fLOf, dLOf := dLOf,
    fLMixed := fLMixed, dLMixed := dLMixed,
    fLNames := fLNames, dLNames := dLNames,
    fLRiver := fLRiver, dLRiver := dLRiver,
    fLCourse := fLCourse, dLCourse := dLCourse,
    fLRightNames := fLRightNames, dLRightNames := dLRightNames,
    fLRights := fLRights, dLRights := dLRights,
    fLWay := fLWay, dLWay := dLWay,
    fLMeets := fLMeets, dLMeets := dLMeets,
    fLRemoval := fLRemoval, dLRemoval := dLRemoval,
    fLFullest := fLFullest, dLFullest := dLFullest,
    fLTurnsRight := fLTurnsRight, dLTurnsRight := dLTurnsRight,
    fLApartRight := fLApartRight, dLApartRight := dLApartRight,
    fLaw := fa, dLaw := dLaw }
  have T : Txt K mg A := {
    clV := ⟨pgV, hdV, poV, saV⟩,
    clR := ⟨pgR, hdR, poR, saR⟩,
    mkV := ⟨mkV, aVInit, iVInit, kcV⟩,
    mkR := ⟨mkR, aRInit, iRInit, kcR⟩,
    mgV := PySem.W.mg_of X G aV,
    mgR := PySem.W.mg_of X G aR,
    nV_weirs := nVweirs,
    nV_lower := nVlower,
    nV_courses := nVcourses,
    nR_river := nRriver,
    nR_names := nRnames,
    nR_entries := nRentries,
    nR_ways := nRways,
    nR_stops := nRstops,
    b_len := PySem.W.mg_none_of X G zlen,
    b_isinstance := PySem.W.mg_none_of X G zisinstance,
    b_all := PySem.W.mg_none_of X G zall,
    b_any := PySem.W.mg_none_of X G zany,
    b_tuple := PySem.W.mg_none_of X G ztuple,
    b_list := PySem.W.mg_none_of X G zlist,
    b_sorted := PySem.W.mg_none_of X G zsorted,
    b_enumerate := PySem.W.mg_none_of X G zenumerate,
    b_range := PySem.W.mg_none_of X G zrange,
    b_dict := PySem.W.mg_none_of X G zdict,
    b_int := PySem.W.mg_none_of X G zint,
    b_abs := PySem.W.mg_none_of X G zabs,
    b_max := PySem.W.mg_none_of X G zmax,
    b_min := PySem.W.mg_none_of X G zmin,
    b_str := PySem.W.mg_none_of X G zstr,
    mgMW := ⟨t1, PySem.W.mg_of X G m1⟩,
    mgMR := ⟨t2, PySem.W.mg_of X G m2⟩,
    mgLE := ⟨t3, PySem.W.mg_of X G m3⟩,
    fnMeet := FMeet,
    bdMeet := bnMeet FMeet,
    mgMeet := PySem.W.mg_of X G aMeet,
    fnMetBy := FMetBy,
    bdMetBy := bnMetBy FMetBy,
    mgMetBy := PySem.W.mg_of X G aMetBy,
    fnRemNames := FRemNames,
    bdRemNames := bnRemNames FRemNames,
    mgRemNames := PySem.W.mg_of X G aRemNames,
    fnFullest := FFullest,
    bdFullest := bnFullest FFullest,
    mgFullest := PySem.W.mg_of X G aFullest,
    fnTurns := FTurns,
    bdTurns := bnTurns FTurns,
    mgTurns := PySem.W.mg_of X G aTurns,
    fnApart := FApart,
    bdApart := bnApart FApart,
    mgApart := PySem.W.mg_of X G aApart,
    fnGuards := FGuards,
    bdGuards := bnGuards FGuards,
    mgGuards := PySem.W.mg_of X G aGuards,
    fnIsName := FIsName,
    bdIsName := bnIsName FIsName,
    mgIsName := PySem.W.mg_of X G aIsName,
    fnWrongRow := FWrongRow,
    bdWrongRow := bnWrongRow FWrongRow,
    mgWrongRow := PySem.W.mg_of X G aWrongRow,
    fnReaches := FReaches,
    bdReaches := bnReaches FReaches,
    mgReaches := PySem.W.mg_of X G aReaches,
    fnRivFault := FRivFault,
    bdRivFault := bnRivFault FRivFault,
    mgRivFault := PySem.W.mg_of X G aRivFault,
    fnCourseOf := FCourseOf,
    bdCourseOf := bnCourseOf FCourseOf,
    mgCourseOf := PySem.W.mg_of X G aCourseOf,
    fnVInit := FVInit,
    bdVInit := bnVInit FVInit,
    fnVNeed := FVNeed,
    bdVNeed := bnVNeed FVNeed,
    mtVNeed := ⟨aVNeed, iVNeed, FVNeed.kp⟩,
    fnVRows := FVRows,
    bdVRows := bnVRows FVRows,
    mtVRows := ⟨aVRows, iVRows, FVRows.kp⟩,
    fnVCourse := FVCourse,
    bdVCourse := bnVCourse FVCourse,
    mtVCourse := ⟨aVCourse, iVCourse, FVCourse.kp⟩,
    fnVDepth := FVDepth,
    bdVDepth := bnVDepth FVDepth,
    mtVDepth := ⟨aVDepth, iVDepth, FVDepth.kp⟩,
    fnVIsDown := FVIsDown,
    bdVIsDown := bnVIsDown FVIsDown,
    mtVIsDown := ⟨aVIsDown, iVIsDown, FVIsDown.kp⟩,
    fnVWay := FVWay,
    bdVWay := bnVWay FVWay,
    mtVWay := ⟨aVWay, iVWay, FVWay.kp⟩,
    fnWrongRight := FWrongRight,
    bdWrongRight := bnWrongRight FWrongRight,
    mgWrongRight := PySem.W.mg_of X G aWrongRight,
    fnRtsFault := FRtsFault,
    bdRtsFault := bnRtsFault FRtsFault,
    mgRtsFault := PySem.W.mg_of X G aRtsFault,
    fnRInit := FRInit,
    bdRInit := bnRInit FRInit,
    fnRNeed := FRNeed,
    bdRNeed := bnRNeed FRNeed,
    mtRNeed := ⟨aRNeed, iRNeed, FRNeed.kp⟩,
    fnRRows := FRRows,
    bdRRows := bnRRows FRRows,
    mtRRows := ⟨aRRows, iRRows, FRRows.kp⟩,
    fnRLast := FRLast,
    bdRLast := bnRLast FRLast,
    mtRLast := ⟨aRLast, iRLast, FRLast.kp⟩,
    fnRWay := FRWay,
    bdRWay := bnRWay FRWay,
    mtRWay := ⟨aRWay, iRWay, FRWay.kp⟩,
    fnRPassing := FRPassing,
    bdRPassing := bnRPassing FRPassing,
    mtRPassing := ⟨aRPassing, iRPassing, FRPassing.kp⟩,
    fnLBag := FLBag,
    bdLBag := bnLBag FLBag,
    mgLBag := PySem.W.mg_of X G aLBag,
    fnLTake := FLTake,
    bdLTake := bnLTake FLTake,
    mgLTake := PySem.W.mg_of X G aLTake,
    fnLOf := FLOf,
    bdLOf := bnLOf FLOf,
    mgLOf := PySem.W.mg_of X G aLOf,
    fnLMixed := FLMixed,
    bdLMixed := bnLMixed FLMixed,
    mgLMixed := PySem.W.mg_of X G aLMixed,
    fnLNames := FLNames,
    bdLNames := bnLNames FLNames,
    mgLNames := PySem.W.mg_of X G aLNames,
    fnLRiver := FLRiver,
    bdLRiver := bnLRiver FLRiver,
    mgLRiver := PySem.W.mg_of X G aLRiver,
    fnLCourse := FLCourse,
    bdLCourse := bnLCourse FLCourse,
    mgLCourse := PySem.W.mg_of X G aLCourse,
    fnLRightNames := FLRightNames,
    bdLRightNames := bnLRightNames FLRightNames,
    mgLRightNames := PySem.W.mg_of X G aLRightNames,
    fnLRights := FLRights,
    bdLRights := bnLRights FLRights,
    mgLRights := PySem.W.mg_of X G aLRights,
    fnLWay := FLWay,
    bdLWay := bnLWay FLWay,
    mgLWay := PySem.W.mg_of X G aLWay,
    fnLMeets := FLMeets,
    bdLMeets := bnLMeets FLMeets,
    mgLMeets := PySem.W.mg_of X G aLMeets,
    fnLRemoval := FLRemoval,
    bdLRemoval := bnLRemoval FLRemoval,
    mgLRemoval := PySem.W.mg_of X G aLRemoval,
    fnLFullest := FLFullest,
    bdLFullest := bnLFullest FLFullest,
    mgLFullest := PySem.W.mg_of X G aLFullest,
    fnLTurnsRight := FLTurnsRight,
    bdLTurnsRight := bnLTurnsRight FLTurnsRight,
    mgLTurnsRight := PySem.W.mg_of X G aLTurnsRight,
    fnLApartRight := FLApartRight,
    bdLApartRight := bnLApartRight FLApartRight,
    mgLApartRight := PySem.W.mg_of X G aLApartRight,
    fnLaw := FLaw,
    bdLaw := bnLaw FLaw,
    mgLaw := PySem.W.mg_of X G aLaw }
  obtain ⟨oc, od, kV, doc, pm, an, cdv, ct, osl, efd, lk, hcd⟩ := FLaw.ex
  refine ⟨dLaw, [(cR0, pR0)], spLaw K A, fun p hp => ?_, fun p hp => ?_, fun p hp => ?_, fun s u => ?_, fun H a ns hl _ hH hS => ⟨a, ns, rfl, hS, hl, fun p hp => ?_, fun _ => rfl⟩, fun base _ _ hB => ok_law T FC (hB _ List.mem_cons_self)⟩
  · rw [List.mem_singleton.mp hp]
    exact hT _ hP
  · rw [List.mem_singleton.mp hp]
    exact hN
  · rw [List.mem_singleton.mp hp]
    exact PySem.W.codeHd_of_K X hHd
  · subst efd
    exact .of_eq rfl
  · rw [List.mem_singleton.mp hp]
    exact TabS.nil (hH _ List.mem_cons_self)
end Wk

open PySem PySem.W PyProof.Rows
set_option maxRecDepth 100000 in
set_option maxHeartbeats 0 in
theorem PySem.Challenge.cw_weirkeepers_k07_whole_turns_and_guards_holds : PySem.Challenge.rw_weirkeepers_k07_whole_turns_and_guards.Holds := by
  w_on; o_law; k_head; (case hw => w_witness2)
  k_fill
  refine LamX.walk_ofTs (n := 63) (k := 12) (x := "_law_script") (CX := fun _ => L2.CX0) rfl (by decide) rfl ⟨rfl, by decide, by decide⟩ (fun w h Y => PySem.W.km_in_of Y) ?F ?C
  case C => exact fun _ _ _ _ _ z => z
  case F =>
    intro w mg fa h Y KX G hmg
    refine' Wk.all_mk KX G hmg (PySem.W.km_tabs_of Y) ?aV ?aR ?pgV ?hdV ?poV ?saV ?mkV ?kcV ?pgR ?hdR ?poR ?saR ?mkR ?kcR ?nVweirs ?nVlower ?nVcourses ?nRriver ?nRnames ?nRentries ?nRways ?nRstops ?zlen ?zisinstance ?zall ?zany ?ztuple ?zlist ?zsorted ?zenumerate ?zrange ?zdict ?zint ?zabs ?zmax ?zmin ?zstr ?m1 ?m2 ?m3 ?hMeet ?hMetBy ?hRemNames ?hFullest ?hTurns ?hApart ?hGuards ?hIsName ?hWrongRow ?hReaches ?hRivFault ?hCourseOf ?hVInit ?hVNeed ?hVRows ?hVCourse ?hVDepth ?hVIsDown ?hVWay ?hWrongRight ?hRtsFault ?hRInit ?hRNeed ?hRRows ?hRLast ?hRWay ?hRPassing ?hLBag ?hLTake ?hLOf ?hLMixed ?hLNames ?hLRiver ?hLCourse ?hLRightNames ?hLRights ?hLWay ?hLMeets ?hLRemoval ?hLFullest ?hLTurnsRight ?hLApartRight ?hLaw
    (case aV => k_is)
    (case aR => k_is)
    (case pgV => k_is)
    (case hdV => k_is)
    (case poV => k_is)
    (case saV => k_is)
    (case mkV => k_is)
    (case kcV => k_is)
    (case pgR => k_is)
    (case hdR => k_is)
    (case poR => k_is)
    (case saR => k_is)
    (case mkR => k_is)
    (case kcR => k_is)
    (case nVweirs => k_is)
    (case nVlower => k_is)
    (case nVcourses => k_is)
    (case nRriver => k_is)
    (case nRnames => k_is)
    (case nRentries => k_is)
    (case nRways => k_is)
    (case nRstops => k_is)
    (case zlen => k_is)
    (case zisinstance => k_is)
    (case zall => k_is)
    (case zany => k_is)
    (case ztuple => k_is)
    (case zlist => k_is)
    (case zsorted => k_is)
    (case zenumerate => k_is)
    (case zrange => k_is)
    (case zdict => k_is)
    (case zint => k_is)
    (case zabs => k_is)
    (case zmax => k_is)
    (case zmin => k_is)
    (case zstr => k_is)
    (case m1 => k_is)
    (case m2 => k_is)
    (case m3 => k_is)
    (case hMeet => refine' Wk.def_mk ?a ?l ?c ?k; (case a => k_is); (case l => k_is); (case c => k_is); (case k => k_is))
    (case hMetBy => refine' Wk.def_mk ?a ?l ?c ?k; (case a => k_is); (case l => k_is); (case c => k_is); (case k => k_is))
    (case hRemNames => refine' Wk.lam_mk (List.mem_cons_self) ?a ?l ?c ?k ?d ?n; (case a => k_is); (case l => k_is); (case c => k_is); (case k => k_is); (case d => kernel_rfl); (case n => kernel_rfl))
    (case hFullest => refine' Wk.def_mk ?a ?l ?c ?k; (case a => k_is); (case l => k_is); (case c => k_is); (case k => k_is))
    (case hTurns => refine' Wk.def_mk ?a ?l ?c ?k; (case a => k_is); (case l => k_is); (case c => k_is); (case k => k_is))
    (case hApart => refine' Wk.def_mk ?a ?l ?c ?k; (case a => k_is); (case l => k_is); (case c => k_is); (case k => k_is))
    (case hGuards => refine' Wk.def_mk ?a ?l ?c ?k; (case a => k_is); (case l => k_is); (case c => k_is); (case k => k_is))
    (case hIsName => refine' Wk.def_mk ?a ?l ?c ?k; (case a => k_is); (case l => k_is); (case c => k_is); (case k => k_is))
    (case hWrongRow => refine' Wk.def_mk ?a ?l ?c ?k; (case a => k_is); (case l => k_is); (case c => k_is); (case k => k_is))
    (case hReaches => refine' Wk.def_mk ?a ?l ?c ?k; (case a => k_is); (case l => k_is); (case c => k_is); (case k => k_is))
    (case hRivFault => refine' Wk.def_mk ?a ?l ?c ?k; (case a => k_is); (case l => k_is); (case c => k_is); (case k => k_is))
    (case hCourseOf => refine' Wk.def_mk ?a ?l ?c ?k; (case a => k_is); (case l => k_is); (case c => k_is); (case k => k_is))
    (case hVInit => refine' Wk.met_mk ?a ?i ?l ?c ?k; (case a => k_is); (case i => k_is); (case l => k_is); (case c => k_is); (case k => k_is))
    (case hVNeed => refine' Wk.met_mk ?a ?i ?l ?c ?k; (case a => k_is); (case i => k_is); (case l => k_is); (case c => k_is); (case k => k_is))
    (case hVRows => refine' Wk.met_mk ?a ?i ?l ?c ?k; (case a => k_is); (case i => k_is); (case l => k_is); (case c => k_is); (case k => k_is))
    (case hVCourse => refine' Wk.met_mk ?a ?i ?l ?c ?k; (case a => k_is); (case i => k_is); (case l => k_is); (case c => k_is); (case k => k_is))
    (case hVDepth => refine' Wk.met_mk ?a ?i ?l ?c ?k; (case a => k_is); (case i => k_is); (case l => k_is); (case c => k_is); (case k => k_is))
    (case hVIsDown => refine' Wk.met_mk ?a ?i ?l ?c ?k; (case a => k_is); (case i => k_is); (case l => k_is); (case c => k_is); (case k => k_is))
    (case hVWay => refine' Wk.met_mk ?a ?i ?l ?c ?k; (case a => k_is); (case i => k_is); (case l => k_is); (case c => k_is); (case k => k_is))
    (case hWrongRight => refine' Wk.def_mk ?a ?l ?c ?k; (case a => k_is); (case l => k_is); (case c => k_is); (case k => k_is))
    (case hRtsFault => refine' Wk.def_mk ?a ?l ?c ?k; (case a => k_is); (case l => k_is); (case c => k_is); (case k => k_is))
    (case hRInit => refine' Wk.met_mk ?a ?i ?l ?c ?k; (case a => k_is); (case i => k_is); (case l => k_is); (case c => k_is); (case k => k_is))
    (case hRNeed => refine' Wk.met_mk ?a ?i ?l ?c ?k; (case a => k_is); (case i => k_is); (case l => k_is); (case c => k_is); (case k => k_is))
    (case hRRows => refine' Wk.met_mk ?a ?i ?l ?c ?k; (case a => k_is); (case i => k_is); (case l => k_is); (case c => k_is); (case k => k_is))
    (case hRLast => refine' Wk.met_mk ?a ?i ?l ?c ?k; (case a => k_is); (case i => k_is); (case l => k_is); (case c => k_is); (case k => k_is))
    (case hRWay => refine' Wk.met_mk ?a ?i ?l ?c ?k; (case a => k_is); (case i => k_is); (case l => k_is); (case c => k_is); (case k => k_is))
    (case hRPassing => refine' Wk.met_mk ?a ?i ?l ?c ?k; (case a => k_is); (case i => k_is); (case l => k_is); (case c => k_is); (case k => k_is))
    (case hLBag => refine' Wk.def_mk ?a ?l ?c ?k; (case a => k_is); (case l => k_is); (case c => k_is); (case k => k_is))
    (case hLTake => refine' Wk.def_mk ?a ?l ?c ?k; (case a => k_is); (case l => k_is); (case c => k_is); (case k => k_is))
    (case hLOf => refine' Wk.def_mk ?a ?l ?c ?k; (case a => k_is); (case l => k_is); (case c => k_is); (case k => k_is))
    (case hLMixed => refine' Wk.def_mk ?a ?l ?c ?k; (case a => k_is); (case l => k_is); (case c => k_is); (case k => k_is))
    (case hLNames => refine' Wk.def_mk ?a ?l ?c ?k; (case a => k_is); (case l => k_is); (case c => k_is); (case k => k_is))
    (case hLRiver => refine' Wk.def_mk ?a ?l ?c ?k; (case a => k_is); (case l => k_is); (case c => k_is); (case k => k_is))
    (case hLCourse => refine' Wk.def_mk ?a ?l ?c ?k; (case a => k_is); (case l => k_is); (case c => k_is); (case k => k_is))
    (case hLRightNames => refine' Wk.def_mk ?a ?l ?c ?k; (case a => k_is); (case l => k_is); (case c => k_is); (case k => k_is))
    (case hLRights => refine' Wk.def_mk ?a ?l ?c ?k; (case a => k_is); (case l => k_is); (case c => k_is); (case k => k_is))
    (case hLWay => refine' Wk.def_mk ?a ?l ?c ?k; (case a => k_is); (case l => k_is); (case c => k_is); (case k => k_is))
    (case hLMeets => refine' Wk.def_mk ?a ?l ?c ?k; (case a => k_is); (case l => k_is); (case c => k_is); (case k => k_is))
    (case hLRemoval => refine' Wk.def_mk ?a ?l ?c ?k; (case a => k_is); (case l => k_is); (case c => k_is); (case k => k_is))
    (case hLFullest => refine' Wk.def_mk ?a ?l ?c ?k; (case a => k_is); (case l => k_is); (case c => k_is); (case k => k_is))
    (case hLTurnsRight => refine' Wk.def_mk ?a ?l ?c ?k; (case a => k_is); (case l => k_is); (case c => k_is); (case k => k_is))
    (case hLApartRight => refine' Wk.def_mk ?a ?l ?c ?k; (case a => k_is); (case l => k_is); (case c => k_is); (case k => k_is))
    (case hLaw => refine' Wk.def_mk ?a ?l ?c ?k; (case a => k_is); (case l => k_is); (case c => k_is); (case k => k_is))
