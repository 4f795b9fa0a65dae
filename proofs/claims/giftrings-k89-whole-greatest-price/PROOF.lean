import PyProof.Rows.All
import Wide.All
import OpenK.AllK
import Wide.FinOn
import HandS.ForMost
import HandS.Defaults
import HandS.HeadHook1
import HandS.HeadHook2
import KE.KStateDown
import HandS.Head0
import HandS.Head1
import HandS.Head2
import HandS.HeadEnd
import HandS.ForExc
import HandS.Iter
import HandS.DictComp
import HandS.Conv
import HandS.TupAny
import HandS.SortInts
import HandS.IsInst
import HandS.More
import KE.GoesEnum
import HandS.OwnEq
import HandS.Text
import KE.KSortTupG
import HandS.SortRule
import KE.DataMinMax
import HandS.Style
import HandS.Deep
import KE.KDictCopyH
import HandS.WordsDict
import HandS.ExcOwn
import HandS.TryOnly
import HandS.WordsExc
import PySem.Challenge.RW_giftrings_k89_whole_greatest_price_or_la
/- GMath -/
/-! Plain mathematics: assoc lists, matchings by augmenting ways, least greatest price. No program in sight. -/
set_option linter.all false
namespace GR
section
variable {α β : Type} [DecidableEq α]

theorem len_le_of_sub : ∀ {l m : List α}, l.Nodup → (∀ x, x ∈ l → x ∈ m) → l.length ≤ m.length
  | [], _, _, _ => Nat.zero_le _
  | a :: l, m, h, s => by
    obtain ⟨h1, h2⟩ := List.nodup_cons.mp h
    have ha : a ∈ m := s a List.mem_cons_self
    have hs : ∀ x, x ∈ l → x ∈ m.erase a := fun x hx => by
      have hne : x ≠ a := fun e => h1 (e ▸ hx)
      exact (List.mem_erase_of_ne hne).mpr (s x (List.mem_cons_of_mem _ hx))
    have ih := len_le_of_sub (m := m.erase a) h2 hs
    have hl := List.length_erase_of_mem ha
    have hp : 0 < m.length := List.length_pos_of_mem ha
    rw [List.length_cons]
    omega

/-! ### assoc lists -/
def gt (l : List (α × β)) (k : α) : Option β := (l.find? fun p => decide (p.1 = k)).map (·.2)
def put (l : List (α × β)) (k : α) (v : β) : List (α × β) := if (l.any fun p => decide (p.1 = k)) = true then l.map (fun p => if p.1 = k then (p.1, v) else p) else l ++ [(k, v)]
def keys (l : List (α × β)) : List α := l.map (·.1)

theorem gt_nil (k : α) : gt ([] : List (α × β)) k = none := rfl
theorem gt_cons (p : α × β) (l : List (α × β)) (k : α) : gt (p :: l) k = if p.1 = k then some p.2 else gt l k := by
  unfold gt
  rw [List.find?_cons]
  by_cases h : p.1 = k
  · rw [if_pos h]; simp [h]
  · rw [if_neg h]; simp [h]
theorem gt_none_iff : ∀ {l : List (α × β)} {k : α}, gt l k = none ↔ k ∉ keys l
  | [], k => by simp [gt, keys]
  | p :: l, k => by
    rw [gt_cons]
    have ih := gt_none_iff (l := l) (k := k)
    by_cases h : p.1 = k
    · rw [if_pos h]
      simp [keys, h]
    · rw [if_neg h, ih]
      simp [keys]
      intro _ e
      exact h e.symm
theorem gt_some_key {l : List (α × β)} {k : α} {v : β} (h : gt l k = some v) : k ∈ keys l := by
  have q : ¬ k ∉ keys l := fun m => by
    rw [gt_none_iff.mpr m] at h
    cases h
  exact Classical.not_not.mp q
theorem gt_mem : ∀ {l : List (α × β)} {k : α} {v : β}, gt l k = some v → (k, v) ∈ l
  | [], k, v, h => by simp [gt] at h
  | p :: l, k, v, h => by
    rw [gt_cons] at h
    by_cases e : p.1 = k
    · rw [if_pos e] at h
      have : p = (k, v) := by
        cases p
        simp at e h
        rw [e, h]
      rw [this]
      exact List.mem_cons_self
    · rw [if_neg e] at h
      exact List.mem_cons_of_mem _ (gt_mem h)
theorem gt_of_mem : ∀ {l : List (α × β)} {k : α} {v : β}, (keys l).Nodup → (k, v) ∈ l → gt l k = some v
  | [], k, v, _, h => by simp at h
  | p :: l, k, v, n, h => by
    obtain ⟨n1, n2⟩ := List.nodup_cons.mp (show (p.1 :: keys l).Nodup from n)
    rw [gt_cons]
    rcases List.mem_cons.mp h with e | h
    · subst e
      rw [if_pos rfl]
    · have hk : k ∈ keys l := List.mem_map.mpr ⟨(k, v), h, rfl⟩
      rw [if_neg fun e => n1 (by rw [e]; exact hk)]
      exact gt_of_mem n2 h
theorem gt_key_some {l : List (α × β)} {k : α} (h : k ∈ keys l) : ∃ v, gt l k = some v := by
  cases e : gt l k with
  | none => exact absurd h (gt_none_iff.mp e)
  | some v => exact ⟨v, rfl⟩
theorem any_iff {l : List (α × β)} {k : α} : (l.any fun p => decide (p.1 = k)) = true ↔ k ∈ keys l := by
  rw [List.any_eq_true]
  constructor
  · rintro ⟨p, hp, e⟩
    exact List.mem_map.mpr ⟨p, hp, of_decide_eq_true e⟩
  · intro h
    obtain ⟨p, hp, e⟩ := List.mem_map.mp h
    exact ⟨p, hp, decide_eq_true e⟩
theorem put_old {l : List (α × β)} {k : α} (v : β) (h : k ∈ keys l) : put l k v = l.map (fun p => if p.1 = k then (p.1, v) else p) := by
  unfold put
  rw [if_pos (any_iff.mpr h)]
theorem put_new {l : List (α × β)} {k : α} (v : β) (h : k ∉ keys l) : put l k v = l ++ [(k, v)] := by
  unfold put
  rw [if_neg fun e => h (any_iff.mp e)]
theorem keys_map_if (l : List (α × β)) (k : α) (v : β) : keys (l.map (fun p => if p.1 = k then (p.1, v) else p)) = keys l := by
  unfold keys
  rw [List.map_map]
  apply List.map_congr_left
  intro p _
  show (if p.1 = k then (p.1, v) else p).1 = p.1
  by_cases h : p.1 = k
  · rw [if_pos h]
  · rw [if_neg h]
theorem keys_put (l : List (α × β)) (k : α) (v : β) : keys (put l k v) = if k ∈ keys l then keys l else keys l ++ [k] := by
  by_cases h : k ∈ keys l
  · rw [put_old v h, keys_map_if, if_pos h]
  · rw [put_new v h, if_neg h]
    simp [keys]
theorem mem_keys_put {l : List (α × β)} {k : α} {v : β} {x : α} : x ∈ keys (put l k v) ↔ x = k ∨ x ∈ keys l := by
  rw [keys_put]
  by_cases h : k ∈ keys l
  · rw [if_pos h]
    constructor
    · exact .inr
    · rintro (e | e)
      · rw [e]; exact h
      · exact e
  · rw [if_neg h]
    simp
    exact Or.comm
theorem nd_snoc : ∀ {l : List α} {k : α}, l.Nodup → k ∉ l → (l ++ [k]).Nodup := fun {l k} h hk => by
  rw [List.nodup_append]
  refine ⟨h, by simp, fun a ha b hb => ?_⟩
  rw [List.mem_singleton.mp hb]
  exact fun e => hk (e ▸ ha)
theorem nd_put {l : List (α × β)} {k : α} (v : β) (h : (keys l).Nodup) : (keys (put l k v)).Nodup := by
  rw [keys_put]
  by_cases c : k ∈ keys l
  · rw [if_pos c]; exact h
  · rw [if_neg c]; exact nd_snoc h c
theorem gt_append (l m : List (α × β)) (k : α) : gt (l ++ m) k = (gt l k).or (gt m k) := by
  induction l with
  | nil => simp [gt]
  | cons p l ih =>
    rw [List.cons_append, gt_cons, gt_cons, ih]
    by_cases h : p.1 = k
    · rw [if_pos h, if_pos h]; rfl
    · rw [if_neg h, if_neg h]
theorem gt_map_if : ∀ (l : List (α × β)) (k : α) (v : β) (x : α), gt (l.map (fun p => if p.1 = k then (p.1, v) else p)) x = if x = k then (gt l x).map (fun _ => v) else gt l x
  | [], k, v, x => by simp [gt]
  | p :: l, k, v, x => by
    rw [List.map_cons, gt_cons, gt_cons, gt_map_if l k v x]
    by_cases hp : p.1 = k
    · rw [if_pos hp]
      by_cases hx : x = k
      · subst hx
        rw [if_pos hp, if_pos rfl, if_pos hp]
        rfl
      · have hne : ¬ p.1 = x := fun e => hx (e.symm.trans hp)
        simp [hne, hx]
    · rw [if_neg hp]
      by_cases hx : x = k
      · have hne : ¬ p.1 = x := fun e => hp (e.trans hx)
        rw [if_neg hne, if_pos hx, if_pos hx, if_neg hne]
      · rw [if_neg hx, if_neg hx]
theorem gt_put (l : List (α × β)) (k : α) (v : β) (x : α) : gt (put l k v) x = if x = k then some v else gt l x := by
  by_cases h : k ∈ keys l
  · rw [put_old v h, gt_map_if]
    by_cases e : x = k
    · rw [if_pos e, if_pos e, e]
      obtain ⟨u, hu⟩ := gt_key_some h
      rw [hu]; rfl
    · rw [if_neg e, if_neg e]
  · rw [put_new v h, gt_append]
    by_cases e : x = k
    · rw [if_pos e, e, gt_none_iff.mpr h, gt_cons, if_pos rfl]; rfl
    · rw [if_neg e, gt_cons, if_neg (fun z => e z.symm), gt_nil]
      cases gt l x <;> rfl
theorem put_len (l : List (α × β)) (k : α) (v : β) : (put l k v).length ≤ l.length + 1 := by
  by_cases h : k ∈ keys l
  · rw [put_old v h, List.length_map]; omega
  · rw [put_new v h, List.length_append]; simp

/-! ### one augmenting way (Kuhn) -/
variable (rw_ : α → List α)
structure Sk (g : α) (held : List (α × α)) (seen : List α) : Prop where
  inj : ∀ t u x, t ∉ seen → u ∉ seen → gt held t = some x → gt held u = some x → t = u
  no : ∀ t, t ∉ seen → gt held t ≠ some g
structure SkT (g : α) (held : List (α × α)) (seen : List α) (held' : List (α × α)) : Prop where
  same : ∀ t, t ∈ seen → gt held' t = gt held t
  inj : ∀ t u x, t ∉ seen → u ∉ seen → gt held' t = some x → gt held' u = some x → t = u
  rng : ∀ x, (∃ t, t ∉ seen ∧ gt held' t = some x) ↔ (x = g ∨ ∃ t, t ∉ seen ∧ gt held t = some x)
structure SkF (g : α) (held : List (α × α)) (seen seen' : List α) : Prop where
  sub : ∀ t, t ∈ seen → t ∈ seen'
  nb : ∀ t, t ∈ rw_ g → t ∈ seen'
  cl : ∀ t, t ∈ seen' → t ∈ seen ∨ ∃ x, gt held t = some x ∧ ∀ u, u ∈ rw_ x → u ∈ seen'
/-- a loop's turn: the takers in done are dealt with -/
structure SkL (done : List α) (held : List (α × α)) (seen seen' : List α) : Prop where
  sub : ∀ t, t ∈ seen → t ∈ seen'
  nb : ∀ t, t ∈ done → t ∈ seen'
  cl : ∀ t, t ∈ seen' → t ∈ seen ∨ ∃ x, gt held t = some x ∧ ∀ u, u ∈ rw_ x → u ∈ seen'
def Val (held : List (α × α)) : Prop := ∀ t x, gt held t = some x → t ∈ rw_ x
variable {rw_}
theorem SkL.start {held : List (α × α)} {seen : List α} : SkL rw_ [] held seen seen := ⟨fun _ h => h, fun _ h => by simp at h, fun _ h => .inl h⟩
theorem SkL.fin {g : α} {held : List (α × α)} {seen seen' : List α} (h : SkL rw_ (rw_ g) held seen seen') : SkF rw_ g held seen seen' := ⟨h.sub, h.nb, h.cl⟩
theorem SkL.skip {done : List α} {t : α} {held : List (α × α)} {seen seen' : List α} (h : SkL rw_ done held seen seen') (ht : t ∈ seen') : SkL rw_ (done ++ [t]) held seen seen' :=
  ⟨h.sub, fun u hu => by
    rcases List.mem_append.mp hu with q | q
    · exact h.nb u q
    · rw [List.mem_singleton.mp q]; exact ht, h.cl⟩
theorem Val.put {held : List (α × α)} {t g : α} (h : Val rw_ held) (ht : t ∈ rw_ g) : Val rw_ (put held t g) := fun u x e => by
  rw [gt_put] at e
  by_cases c : u = t
  · rw [if_pos c] at e
    cases e
    rw [c]; exact ht
  · rw [if_neg c] at e
    exact h u x e
/-- a free taker is met -/
theorem SkT.free {g t : α} {held : List (α × α)} {seen : List α} (h : Sk g held seen) (ht : t ∉ seen) (hf : gt held t = none) : SkT g held seen (put held t g) := by
  refine ⟨fun u hu => ?_, fun u v x hu hv e1 e2 => ?_, fun x => ⟨?_, ?_⟩⟩
  · rw [gt_put, if_neg (fun e : u = t => ht (e ▸ hu))]
  · rw [gt_put] at e1 e2
    by_cases c : u = t
    · by_cases d : v = t
      · rw [c, d]
      · rw [if_pos c] at e1
        rw [if_neg d] at e2
        cases e1
        exact absurd e2 (h.no v hv)
    · rw [if_neg c] at e1
      by_cases d : v = t
      · rw [if_pos d] at e2
        cases e2
        exact absurd e1 (h.no u hu)
      · rw [if_neg d] at e2
        exact h.inj u v x hu hv e1 e2
  · rintro ⟨u, hu, e⟩
    rw [gt_put] at e
    by_cases c : u = t
    · rw [if_pos c] at e
      cases e
      exact .inl rfl
    · rw [if_neg c] at e
      exact .inr ⟨u, hu, e⟩
  · rintro (e | ⟨u, hu, e⟩)
    · exact ⟨t, ht, by rw [gt_put, if_pos rfl, e]⟩
    · refine ⟨u, hu, ?_⟩
      rw [gt_put, if_neg fun z => ?_]
      · exact e
      · rw [z, hf] at e; cases e
/-- what the inner call may lean on -/
theorem Sk.inner {g t x : α} {held : List (α × α)} {seen seen1 : List α} (h : Sk g held seen) (hs : ∀ u, u ∈ seen → u ∈ seen1) (ht : t ∉ seen) (hx : gt held t = some x) : Sk x held (seen1 ++ [t]) := by
  have up : ∀ u, u ∉ seen1 ++ [t] → u ∉ seen := fun u hu m => hu (List.mem_append_left _ (hs u m))
  refine ⟨fun u v y hu hv e1 e2 => h.inj u v y (up u hu) (up v hv) e1 e2, fun u hu e => ?_⟩
  have z := h.inj u t x (up u hu) ht e hx
  exact hu (by rw [z]; exact List.mem_append_right _ (List.mem_singleton.mpr rfl))
/-- the inner call has moved the taker's giver -/
theorem SkT.step {g t x : α} {held held1 : List (α × α)} {seen seen1 : List α} (h : Sk g held seen) (hs : ∀ u, u ∈ seen → u ∈ seen1) (ht : t ∉ seen) (hx : gt held t = some x)
    (hi : SkT x held (seen1 ++ [t]) held1) : SkT g held seen (put held1 t g) := by
  have up : ∀ u, u ∉ seen1 ++ [t] → u ∉ seen := fun u hu m => hu (List.mem_append_left _ (hs u m))
  have tin : t ∈ seen1 ++ [t] := List.mem_append_right _ (List.mem_singleton.mpr rfl)
  -- a taker other than t: by the old one where it was seen, else in the new range
  have old : ∀ u, u ∉ seen → u ≠ t → ∀ y, gt held1 u = some y → ∃ v, v ∉ seen ∧ gt held v = some y ∧ (u ∈ seen1 ++ [t] → v = u) ∧ (u ∉ seen1 ++ [t] → v = t ∨ v ∉ seen1 ++ [t]) := fun u hu hne y e => by
    by_cases c : u ∈ seen1 ++ [t]
    · exact ⟨u, hu, by rw [← hi.same u c]; exact e, fun _ => rfl, fun z => absurd c z⟩
    · rcases (hi.rng y).mp ⟨u, c, e⟩ with q | ⟨v, hv, q⟩
      · exact ⟨t, ht, by rw [q]; exact hx, fun z => absurd z c, fun _ => .inl rfl⟩
      · exact ⟨v, up v hv, q, fun z => absurd z c, fun _ => .inr hv⟩
  have nog : ∀ u, u ∉ seen → u ≠ t → gt held1 u ≠ some g := fun u hu hne e => by
    obtain ⟨v, hv, q, _⟩ := old u hu hne g e
    exact h.no v hv q
  refine ⟨fun u hu => ?_, fun u v y hu hv e1 e2 => ?_, fun y => ⟨?_, ?_⟩⟩
  · rw [gt_put, if_neg (fun e : u = t => ht (e ▸ hu))]
    exact hi.same u (List.mem_append_left _ (hs u hu))
  · rw [gt_put] at e1 e2
    by_cases c : u = t
    · by_cases d : v = t
      · rw [c, d]
      · rw [if_pos c] at e1
        rw [if_neg d] at e2
        cases e1
        exact absurd e2 (nog v hv d)
    · rw [if_neg c] at e1
      by_cases d : v = t
      · rw [if_pos d] at e2
        cases e2
        exact absurd e1 (nog u hu c)
      · rw [if_neg d] at e2
        by_cases cu : u ∈ seen1 ++ [t]
        · by_cases cv : v ∈ seen1 ++ [t]
          · exact h.inj u v y hu hv (by rw [← hi.same u cu]; exact e1) (by rw [← hi.same v cv]; exact e2)
          · obtain ⟨v', hv', q', _, b⟩ := old v hv d y e2
            have z := h.inj u v' y hu hv' (by rw [← hi.same u cu]; exact e1) q'
            rcases b cv with b | b
            · exact absurd (z.trans b) c
            · exact absurd (z ▸ cu) b
        · by_cases cv : v ∈ seen1 ++ [t]
          · obtain ⟨u', hu', q', _, b⟩ := old u hu c y e1
            have z := h.inj v u' y hv hu' (by rw [← hi.same v cv]; exact e2) q'
            rcases b cu with b | b
            · exact absurd (z.trans b) d
            · exact absurd (z ▸ cv) b
          · exact hi.inj u v y cu cv e1 e2
  · rintro ⟨u, hu, e⟩
    rw [gt_put] at e
    by_cases c : u = t
    · rw [if_pos c] at e
      cases e
      exact .inl rfl
    · rw [if_neg c] at e
      obtain ⟨v, hv, q, _⟩ := old u hu c y e
      exact .inr ⟨v, hv, q⟩
  · rintro (e | ⟨u, hu, e⟩)
    · exact ⟨t, ht, by rw [gt_put, if_pos rfl, e]⟩
    · by_cases cu : u = t
      · -- t's giver x stands elsewhere now
        have ey : y = x := by
          rw [cu, hx] at e
          exact (Option.some.inj e).symm
        obtain ⟨v, hv, q⟩ := (hi.rng x).mpr (.inl rfl)
        have hne : v ≠ t := fun z => hv (z ▸ tin)
        exact ⟨v, up v hv, by rw [gt_put, if_neg hne, q, ey]⟩
      · by_cases c : u ∈ seen1 ++ [t]
        · exact ⟨u, hu, by rw [gt_put, if_neg cu, hi.same u c]; exact e⟩
        · obtain ⟨v, hv, q⟩ := (hi.rng y).mpr (.inr ⟨u, c, e⟩)
          have hne : v ≠ t := fun z => hv (z ▸ tin)
          exact ⟨v, up v hv, by rw [gt_put, if_neg hne, q]⟩
/-- the inner call has found nothing -/
theorem SkL.step {done : List α} {t x : α} {held : List (α × α)} {seen seen1 seen2 : List α} (h : SkL rw_ done held seen seen1) (hx : gt held t = some x) (hi : SkF rw_ x held (seen1 ++ [t]) seen2) : SkL rw_ (done ++ [t]) held seen seen2 := by
  have s12 : ∀ u, u ∈ seen1 → u ∈ seen2 := fun u hu => hi.sub u (List.mem_append_left _ hu)
  have t2 : t ∈ seen2 := hi.sub t (List.mem_append_right _ (List.mem_singleton.mpr rfl))
  refine ⟨fun u hu => s12 u (h.sub u hu), fun u hu => ?_, fun u hu => ?_⟩
  · rcases List.mem_append.mp hu with q | q
    · exact s12 u (h.nb u q)
    · rw [List.mem_singleton.mp q]; exact t2
  · rcases hi.cl u hu with q | q
    · rcases List.mem_append.mp q with q | q
      · rcases h.cl u q with q | ⟨y, e, hy⟩
        · exact .inl q
        · exact .inr ⟨y, e, fun v hv => s12 v (hy v hv)⟩
      · rw [List.mem_singleton.mp q]
        exact .inr ⟨x, hx, hi.nb⟩
    · exact .inr q

/-! ### a full pairing, and what shows that there is none -/
/-- f gives each of gs a taker of its own -/
structure PM (gs : List α) (rw_ : α → List α) (f : α → α) : Prop where
  ok : ∀ g, g ∈ gs → f g ∈ rw_ g
  inj : ∀ g h, g ∈ gs → h ∈ gs → f g = f h → g = h
structure Hall (gs : List α) (rw_ : α → List α) (lot nb : List α) : Prop where
  nd : lot.Nodup
  sub : ∀ g, g ∈ lot → g ∈ gs
  cover : ∀ g t, g ∈ lot → t ∈ rw_ g → t ∈ nb
  few : nb.length < lot.length
theorem nodup_map_of {f : α → α} : ∀ {l : List α}, l.Nodup → (∀ g h, g ∈ l → h ∈ l → f g = f h → g = h) → (l.map f).Nodup
  | [], _, _ => by simp
  | a :: l, h, i => by
    obtain ⟨h1, h2⟩ := List.nodup_cons.mp h
    rw [List.map_cons, List.nodup_cons]
    refine ⟨fun m => ?_, nodup_map_of h2 fun g h hg hh => i g h (List.mem_cons_of_mem _ hg) (List.mem_cons_of_mem _ hh)⟩
    obtain ⟨b, hb, e⟩ := List.mem_map.mp m
    have z := i b a (List.mem_cons_of_mem _ hb) List.mem_cons_self e
    exact h1 (z ▸ hb)
theorem Hall.no {gs : List α} {lot nb : List α} (h : Hall gs rw_ lot nb) : ¬ ∃ f, PM gs rw_ f := by
  rintro ⟨f, p⟩
  have n := nodup_map_of (f := f) h.nd fun a b ha hb => p.inj a b (h.sub a ha) (h.sub b hb)
  have l := len_le_of_sub (m := nb) n fun x hx => by
    obtain ⟨g, hg, e⟩ := List.mem_map.mp hx
    rw [← e]
    exact h.cover g _ hg (p.ok g (h.sub g hg))
  rw [List.length_map] at l
  have := h.few
  omega
/-- held pairs all of done -/
structure Held (done : List α) (rw_ : α → List α) (held : List (α × α)) : Prop where
  nd : (keys held).Nodup
  inj : ∀ t u x, gt held t = some x → gt held u = some x → t = u
  rng : ∀ x, (∃ t, gt held t = some x) ↔ x ∈ done
  val : Val rw_ held
theorem Held.nil : Held [] rw_ ([] : List (α × α)) := ⟨by simp [keys], fun _ _ _ h => by simp [gt] at h, fun x => by simp [gt], fun _ _ h => by simp [gt] at h⟩
theorem Held.sk {done : List α} {held : List (α × α)} {g : α} (h : Held done rw_ held) (hg : g ∉ done) : Sk g held [] := ⟨fun t u x _ _ => h.inj t u x, fun t _ e => hg ((h.rng g).mp ⟨t, e⟩)⟩
theorem Held.next {done : List α} {held held' : List (α × α)} {g : α} (h : Held done rw_ held) (n : (keys held').Nodup) (t : SkT g held [] held') (v : Val rw_ held') : Held (done ++ [g]) rw_ held' := by
  refine ⟨n, fun a b x => t.inj a b x (by simp) (by simp), fun x => ⟨?_, ?_⟩, v⟩
  · rintro ⟨a, e⟩
    rcases (t.rng x).mp ⟨a, by simp, e⟩ with q | ⟨b, _, q⟩
    · simp [q]
    · exact List.mem_append_left _ ((h.rng x).mp ⟨b, q⟩)
  · intro m
    rcases List.mem_append.mp m with q | q
    · obtain ⟨b, e⟩ := (h.rng x).mpr q
      obtain ⟨a, _, z⟩ := (t.rng x).mpr (.inr ⟨b, by simp, e⟩)
      exact ⟨a, z⟩
    · obtain ⟨a, _, z⟩ := (t.rng x).mpr (.inl (List.mem_singleton.mp q))
      exact ⟨a, z⟩
/-- seek has found nothing for g: the lot -/
def lotOf (g : α) (held : List (α × α)) (seen : List α) : List α := g :: seen.filterMap (gt held)
theorem lot_len {held : List (α × α)} : ∀ {seen : List α}, (∀ t, t ∈ seen → ∃ x, gt held t = some x) → (seen.filterMap (gt held)).length = seen.length
  | [], _ => rfl
  | t :: l, h => by
    obtain ⟨x, e⟩ := h t List.mem_cons_self
    rw [List.filterMap_cons, e]
    show (x :: l.filterMap (gt held)).length = _
    rw [List.length_cons, List.length_cons, lot_len fun u hu => h u (List.mem_cons_of_mem _ hu)]
theorem lot_nd {held : List (α × α)} (inj : ∀ t u x, gt held t = some x → gt held u = some x → t = u) : ∀ {seen : List α}, seen.Nodup → (seen.filterMap (gt held)).Nodup
  | [], _ => by simp
  | t :: l, h => by
    obtain ⟨h1, h2⟩ := List.nodup_cons.mp h
    rw [List.filterMap_cons]
    cases e : gt held t with
    | none => exact lot_nd inj h2
    | some x =>
      refine List.nodup_cons.mpr ⟨fun m => ?_, lot_nd inj h2⟩
      obtain ⟨u, hu, q⟩ := List.mem_filterMap.mp m
      exact h1 (inj u t x q e ▸ hu)
theorem Held.hall {done gs : List α} {held : List (α × α)} {g : α} {seen : List α} (h : Held done rw_ held) (hg : g ∉ done) (hgs : ∀ x, x ∈ done ∨ x = g → x ∈ gs) (f : SkF rw_ g held [] seen) (n : seen.Nodup) : Hall gs rw_ (lotOf g held seen) seen := by
  have ex : ∀ t, t ∈ seen → ∃ x, gt held t = some x := fun t ht => by
    rcases f.cl t ht with q | ⟨x, e, _⟩
    · simp at q
    · exact ⟨x, e⟩
  refine ⟨?_, fun x hx => ?_, fun x t hx ht => ?_, ?_⟩
  · refine List.nodup_cons.mpr ⟨fun m => ?_, lot_nd h.inj n⟩
    obtain ⟨u, hu, q⟩ := List.mem_filterMap.mp m
    exact hg ((h.rng g).mp ⟨u, q⟩)
  · rcases List.mem_cons.mp hx with q | q
    · exact hgs x (.inr q)
    · obtain ⟨u, hu, e⟩ := List.mem_filterMap.mp q
      exact hgs x (.inl ((h.rng x).mp ⟨u, e⟩))
  · rcases List.mem_cons.mp hx with q | q
    · rw [q] at ht
      exact f.nb t ht
    · obtain ⟨u, hu, e⟩ := List.mem_filterMap.mp q
      rcases f.cl u hu with z | ⟨y, e', hy⟩
      · simp at z
      · rw [e] at e'
        cases e'
        exact hy t ht
  · unfold lotOf
    rw [List.length_cons, lot_len ex]
    omega
/-- the pairing read off held -/
theorem Held.pm {gs : List α} {held : List (α × α)} (h : Held gs rw_ held) (f : α → α) (hf : ∀ g, g ∈ gs → gt held (f g) = some g) : PM gs rw_ f :=
  ⟨fun g hg => h.val _ _ (hf g hg), fun a b ha hb e => by
    have z := hf a ha
    rw [e, hf b hb] at z
    exact (Option.some.inj z).symm⟩

/-! ### the least greatest price -/
structure Least (gs : List α) (rw_ : α → List α) (pr : α → α → Int) (m : Int) : Prop where
  ex : ∃ f, PM gs rw_ f ∧ (∀ g, g ∈ gs → pr g (f g) ≤ m)
  all : ∀ f, PM gs rw_ f → ∃ g, g ∈ gs ∧ m ≤ pr g (f g)
theorem Least.uniq {gs : List α} {pr : α → α → Int} {m m' : Int} (h : Least gs rw_ pr m) (h' : Least gs rw_ pr m') : m = m' := by
  obtain ⟨f, p, hf⟩ := h.ex
  obtain ⟨f', p', hf'⟩ := h'.ex
  obtain ⟨g, hg, a⟩ := h'.all f p
  obtain ⟨g', hg', b⟩ := h.all f' p'
  have := hf g hg
  have := hf' g' hg'
  omega
theorem Least.map {gs : List α} {pr : α → α → Int} {m : Int} (φ : Int → Int) (mono : ∀ a b, a ≤ b → φ a ≤ φ b) (h : Least gs rw_ pr m) : Least gs rw_ (fun a b => φ (pr a b)) (φ m) := by
  obtain ⟨f, p, hf⟩ := h.ex
  refine ⟨⟨f, p, fun g hg => mono _ _ (hf g hg)⟩, fun f' p' => ?_⟩
  obtain ⟨g, hg, a⟩ := h.all f' p'
  exact ⟨g, hg, mono _ _ a⟩
theorem PM.congr {gs : List α} {r r' : α → List α} {f : α → α} (p : PM gs r f) (h : ∀ g, g ∈ gs → ∀ t, t ∈ r g → t ∈ r' g) : PM gs r' f := ⟨fun g hg => h g hg _ (p.ok g hg), p.inj⟩
theorem Least.congr {gs : List α} {pr pr' : α → α → Int} {m : Int} (h : Least gs rw_ pr m) (e : ∀ g t, g ∈ gs → t ∈ rw_ g → pr g t = pr' g t) : Least gs rw_ pr' m := by
  obtain ⟨f, p, hf⟩ := h.ex
  refine ⟨⟨f, p, fun g hg => by rw [← e g _ hg (p.ok g hg)]; exact hf g hg⟩, fun f' p' => ?_⟩
  obtain ⟨g, hg, a⟩ := h.all f' p'
  exact ⟨g, hg, by rw [← e g _ hg (p'.ok g hg)]; exact a⟩
/-- the rows of the pairs that cost at most m -/
def upTo (rw_ : α → List α) (pr : α → α → Int) (m : Int) : α → List α := fun g => (rw_ g).filter fun t => decide (pr g t ≤ m)
theorem mem_upTo {pr : α → α → Int} {m : Int} {g t : α} : t ∈ upTo rw_ pr m g ↔ t ∈ rw_ g ∧ pr g t ≤ m := by
  unfold upTo
  rw [List.mem_filter]
  simp
theorem PM.up {gs : List α} {pr : α → α → Int} {f : α → α} {m : Int} (p : PM gs rw_ f) (h : ∀ g, g ∈ gs → pr g (f g) ≤ m) : PM gs (upTo rw_ pr m) f := ⟨fun g hg => mem_upTo.mpr ⟨p.ok g hg, h g hg⟩, p.inj⟩
theorem PM.down {gs : List α} {pr : α → α → Int} {f : α → α} {m : Int} (p : PM gs (upTo rw_ pr m) f) : PM gs rw_ f ∧ ∀ g, g ∈ gs → pr g (f g) ≤ m :=
  ⟨⟨fun g hg => (mem_upTo.mp (p.ok g hg)).1, p.inj⟩, fun g hg => (mem_upTo.mp (p.ok g hg)).2⟩
/-- a greatest of finitely many -/
theorem max_of {γ : Type} : ∀ (l : List γ) (h : γ → Int), l ≠ [] → ∃ x, x ∈ l ∧ ∀ y, y ∈ l → h y ≤ h x
  | [], _, n => absurd rfl n
  | [a], h, _ => ⟨a, by simp, fun y hy => by
    have : y = a := by simpa using hy
    rw [this]; exact Int.le_refl _⟩
  | a :: b :: l, h, _ => by
    obtain ⟨x, hx, k⟩ := max_of (b :: l) h (by simp)
    by_cases c : h a ≤ h x
    · refine ⟨x, List.mem_cons_of_mem _ hx, fun y hy => ?_⟩
      rcases List.mem_cons.mp hy with q | q
      · rw [q]; exact c
      · exact k y q
    · refine ⟨a, List.mem_cons_self, fun y hy => ?_⟩
      rcases List.mem_cons.mp hy with q | q
      · rw [q]; exact Int.le_refl _
      · have := k y q
        omega
/-- the first bound of the known prices that a pairing keeps -/
theorem Least.found {gs : List α} {pr : α → α → Int} {m : Int} {f : α → α} (ne : gs ≠ []) (p : PM gs (upTo rw_ pr m) f) (lo : ∀ g t, g ∈ gs → t ∈ rw_ g → pr g t < m → ¬ ∃ f, PM gs (upTo rw_ pr (pr g t)) f) : Least gs rw_ pr m := by
  obtain ⟨p0, hm⟩ := p.down
  refine ⟨⟨f, p0, hm⟩, fun f' p' => ?_⟩
  obtain ⟨g, hg, k⟩ := max_of gs (fun g => pr g (f' g)) ne
  refine ⟨g, hg, Int.not_lt.mp fun c => ?_⟩
  exact lo g (f' g) hg (p'.ok g hg) c ⟨f', p'.up fun h hh => k h hh⟩
/-- some pair of the found pairing costs just the number -/
theorem Least.max {gs : List α} {pr : α → α → Int} {m : Int} {f : α → α} (h : Least gs rw_ pr m) (p : PM gs rw_ f) (hm : ∀ g, g ∈ gs → pr g (f g) ≤ m) : ∃ g, g ∈ gs ∧ pr g (f g) = m := by
  obtain ⟨g, hg, a⟩ := h.all f p
  exact ⟨g, hg, Int.le_antisymm (hm g hg) a⟩
theorem Least.below {gs : List α} {pr : α → α → Int} {m : Int} (h : Least gs rw_ pr m) : ¬ ∃ f, PM gs (upTo rw_ pr (m - 1)) f := by
  rintro ⟨f, p⟩
  obtain ⟨p0, hm⟩ := p.down
  obtain ⟨g, hg, a⟩ := h.all f p0
  have := hm g hg
  omega
end
end GR
namespace GR
section
variable {α β : Type} [DecidableEq α]
/-! ### a dict turned round -/
def invOf (l : List (α × α)) : List (α × α) := l.foldl (fun acc p => put acc p.2 p.1) []
theorem invOf_snoc (l : List (α × α)) (p : α × α) : invOf (l ++ [p]) = put (invOf l) p.2 p.1 := by
  unfold invOf
  rw [List.foldl_append]
  rfl
theorem snoc_ind {γ : Type} {P : List γ → Prop} (h0 : P []) (h1 : ∀ l a, P l → P (l ++ [a])) : ∀ l, P l := fun l => by
  have : ∀ n (l : List γ), l.length = n → P l := fun n => by
    induction n with
    | zero =>
      intro l h
      rw [List.length_eq_zero_iff.mp h]
      exact h0
    | succ n ih =>
      intro l h
      have hne : l ≠ [] := by
        intro e
        rw [e] at h
        simp at h
      rw [← List.dropLast_concat_getLast hne]
      exact h1 _ _ (ih _ (by rw [List.length_dropLast]; omega))
  exact this _ l rfl
theorem invOf_len : ∀ l : List (α × α), (invOf l).length ≤ l.length := snoc_ind (by simp [invOf]) fun l a ih => by
  rw [invOf_snoc, List.length_append]
  have := put_len (invOf l) a.2 a.1
  simp
  omega
theorem invOf_get : ∀ l : List (α × α), (keys l).Nodup → (∀ t u x, gt l t = some x → gt l u = some x → t = u) → ∀ x t, gt (invOf l) x = some t ↔ gt l t = some x := by
  refine snoc_ind (fun _ _ x t => by simp [invOf, gt]) fun l a ih nd inj x t => ?_
  have nd' : (keys l).Nodup ∧ a.1 ∉ keys l := by
    unfold keys at nd ⊢
    rw [List.map_append, List.nodup_append] at nd
    exact ⟨nd.1, fun m => nd.2.2 a.1 m a.1 (by simp) rfl⟩
  have up : ∀ t x, gt l t = some x → gt (l ++ [a]) t = some x := fun t x e => by
    rw [gt_append, e]
    rfl
  have self : gt (l ++ [a]) a.1 = some a.2 := by
    rw [gt_append, gt_none_iff.mpr nd'.2, gt_cons, if_pos rfl]
    rfl
  have ih' := ih nd'.1 (fun t u x e1 e2 => inj t u x (up t x e1) (up u x e2))
  rw [invOf_snoc, gt_put]
  by_cases c : x = a.2
  · rw [if_pos c, c]
    constructor
    · intro e
      rw [← Option.some.inj e]
      exact self
    · intro e
      rw [inj t a.1 a.2 e self]
  · rw [if_neg c, ih' x t]
    constructor
    · exact up t x
    · intro e
      rw [gt_append] at e
      cases q : gt l t with
      | some y =>
        rw [q] at e
        exact e
      | none =>
        rw [q, gt_cons] at e
        by_cases d : a.1 = t
        · rw [if_pos d] at e
          exact absurd (Option.some.inj e).symm c
        · rw [if_neg d] at e
          simp [gt] at e
theorem take_snoc {γ : Type} {l : List γ} {i : Nat} {x : γ} (h : l[i]? = some x) : l.take (i + 1) = l.take i ++ [x] := by
  rw [List.take_succ, h]
  rfl
theorem not_mem_take {l : List α} (n : l.Nodup) {i : Nat} {x : α} (h : l[i]? = some x) : x ∉ l.take i := by
  intro m
  obtain ⟨j, hj, e⟩ := List.mem_take_iff_getElem.mp m
  obtain ⟨hi, e2⟩ := List.getElem?_eq_some_iff.mp h
  have := (List.getElem_inj n).mp (e.trans e2.symm)
  omega
theorem put_fn {f : α → β} {gs : List α} (n : gs.Nodup) {i : Nat} {g : α} (h : gs[i]? = some g) : put ((gs.take i).map fun g => (g, f g)) g (f g) = (gs.take (i + 1)).map fun g => (g, f g) := by
  have nm := not_mem_take n h
  rw [put_new, take_snoc h, List.map_append]
  · rfl
  · unfold keys
    rw [List.map_map]
    intro m
    obtain ⟨y, hy, e⟩ := List.mem_map.mp m
    exact nm (e ▸ hy)
theorem filter_snoc {l : List α} {p : α → Bool} {i : Nat} {x : α} (h : l[i]? = some x) : (l.take (i + 1)).filter p = (l.take i).filter p ++ (if p x = true then [x] else []) := by
  rw [take_snoc h, List.filter_append]
  congr 1
  rw [List.filter_cons]
  split <;> simp_all
end
end GR

/- Facts -/
set_option Elab.async false
set_option linter.all false
set_option maxRecDepth 100000
set_option maxHeartbeats 4000000
namespace GF
open PySem PySem.Spec PyProof.Rows L2
def top (i : Nat) : Stmt := PySem.Challenge.pw_giftrings_k89_whole_greatest_price_or_la.main.body.getD i (.Pass ⟨0, 0, 0, 0⟩)
abbrev sSeek : Stmt := top 12
abbrev sPaired : Stmt := top 13
abbrev sShortLot : Stmt := top 14
abbrev sTakersOf : Stmt := top 15
abbrev sIsName : Stmt := top 20
abbrev sIsPerson : Stmt := top 21
abbrev sAreDifferent : Stmt := top 22
abbrev sIsPair : Stmt := top 23
abbrev sCheckPeople : Stmt := top 24
abbrev sCheckPairs : Stmt := top 25
abbrev sCheckName : Stmt := top 26
abbrev sPartyInit : Stmt := inClass (top 27) 0
abbrev sPartyPeople : Stmt := inClass (top 27) 1
abbrev sPartyMay : Stmt := inClass (top 27) 3
abbrev sPartyContains : Stmt := inClass (top 27) 7
abbrev sIsLot : Stmt := top 30
abbrev sIsLeak : Stmt := top 31
abbrev sLets : Stmt := top 32
abbrev sAllLet : Stmt := top 33
abbrev sBookInit : Stmt := inClass (top 34) 0
abbrev sBookParty : Stmt := inClass (top 34) 1
abbrev sBookRows : Stmt := inClass (top 34) 3
abbrev sBookFree : Stmt := inClass (top 34) 4
abbrev sDrawing : Stmt := top 35
abbrev sLack : Stmt := top 36
abbrev sIsInteger : Stmt := top 39
abbrev sIsPrice : Stmt := top 40
abbrev sCheckPrices : Stmt := top 41
abbrev sTotal : Stmt := top 42
abbrev sSearchInit : Stmt := inClass (top 43) 0
abbrev sSearchGrow : Stmt := inClass (top 43) 1
abbrev sSearchShift : Stmt := inClass (top 43) 2
abbrev sSearchTurnOver : Stmt := inClass (top 43) 3
abbrev sSolved : Stmt := top 44
abbrev sSolvedBook : Stmt := top 45
abbrev sCheapest : Stmt := top 46
abbrev sRowsUpTo : Stmt := top 47
abbrev sGreatest : Stmt := top 48
abbrev sGreatestLack : Stmt := top 49
abbrev sLawCell : Stmt := top 51
abbrev sLawDraws : Stmt := top 52
abbrev sLawPeople : Stmt := top 53
abbrev sLawBarred : Stmt := top 54
abbrev sLawHidden : Stmt := top 55
abbrev sLawLot : Stmt := top 56
abbrev sLawLeak : Stmt := top 57
abbrev sLawLets : Stmt := top 58
abbrev sLawKept : Stmt := top 59
abbrev sLawMended : Stmt := top 60
abbrev sLawWorld : Stmt := top 61
abbrev sLawRows : Stmt := top 62
abbrev sLawIsDrawing : Stmt := top 63
abbrev sLawEqual : Stmt := top 64
abbrev sLawPrice : Stmt := top 65
abbrev sLawPrices : Stmt := top 66
abbrev sLawRefused : Stmt := top 68
abbrev sLawIsLack : Stmt := top 69
abbrev sLawGreatestOf : Stmt := top 70
abbrev sLaw : Stmt := top 71
def dSeek : He.DefD := ⟨("seek", none), "seek", "seek", defArgs sSeek, defBody sSeek, defScope sSeek, [], []⟩
def dPaired : He.DefD := ⟨("paired", none), "paired", "paired", defArgs sPaired, defBody sPaired, defScope sPaired, [], []⟩
def dShortLot : He.DefD := ⟨("short_lot", none), "short_lot", "short_lot", defArgs sShortLot, defBody sShortLot, defScope sShortLot, [], []⟩
def dTakersOf : He.DefD := ⟨("takers_of", none), "takers_of", "takers_of", defArgs sTakersOf, defBody sTakersOf, defScope sTakersOf, [], []⟩
def dIsName : He.DefD := ⟨("is_name", none), "is_name", "is_name", defArgs sIsName, defBody sIsName, defScope sIsName, [], []⟩
def dIsPerson : He.DefD := ⟨("is_person", none), "is_person", "is_person", defArgs sIsPerson, defBody sIsPerson, defScope sIsPerson, [], []⟩
def dAreDifferent : He.DefD := ⟨("are_different", none), "are_different", "are_different", defArgs sAreDifferent, defBody sAreDifferent, defScope sAreDifferent, [], []⟩
def dIsPair : He.DefD := ⟨("is_pair", none), "is_pair", "is_pair", defArgs sIsPair, defBody sIsPair, defScope sIsPair, [], []⟩
def dCheckPeople : He.DefD := ⟨("check_people", none), "check_people", "check_people", defArgs sCheckPeople, defBody sCheckPeople, defScope sCheckPeople, [], []⟩
def dCheckPairs : He.DefD := ⟨("check_pairs", none), "check_pairs", "check_pairs", defArgs sCheckPairs, defBody sCheckPairs, defScope sCheckPairs, [], []⟩
def dCheckName : He.DefD := ⟨("check_name", none), "check_name", "check_name", defArgs sCheckName, defBody sCheckName, defScope sCheckName, [], []⟩
def dPartyInit : He.DefD := ⟨("Party", some "__init__"), "__init__", "Party.__init__", defArgs sPartyInit, defBody sPartyInit, defScope sPartyInit, [], []⟩
def dPartyPeople : He.DefD := ⟨("Party", some "people"), "people", "Party.people", defArgs sPartyPeople, defBody sPartyPeople, defScope sPartyPeople, [], []⟩
def dPartyMay : He.DefD := ⟨("Party", some "may"), "may", "Party.may", defArgs sPartyMay, defBody sPartyMay, defScope sPartyMay, [], []⟩
def dPartyContains : He.DefD := ⟨("Party", some "__contains__"), "__contains__", "Party.__contains__", defArgs sPartyContains, defBody sPartyContains, defScope sPartyContains, [], []⟩
def dIsLot : He.DefD := ⟨("is_lot", none), "is_lot", "is_lot", defArgs sIsLot, defBody sIsLot, defScope sIsLot, [], []⟩
def dIsLeak : He.DefD := ⟨("is_leak", none), "is_leak", "is_leak", defArgs sIsLeak, defBody sIsLeak, defScope sIsLeak, [], []⟩
def dLets : He.DefD := ⟨("lets", none), "lets", "lets", defArgs sLets, defBody sLets, defScope sLets, [], []⟩
def dAllLet : He.DefD := ⟨("all_let", none), "all_let", "all_let", defArgs sAllLet, defBody sAllLet, defScope sAllLet, [], []⟩
def dBookInit : He.DefD := ⟨("Book", some "__init__"), "__init__", "Book.__init__", defArgs sBookInit, defBody sBookInit, defScope sBookInit, [], []⟩
def dBookParty : He.DefD := ⟨("Book", some "party"), "party", "Book.party", defArgs sBookParty, defBody sBookParty, defScope sBookParty, [], []⟩
def dBookRows : He.DefD := ⟨("Book", some "rows"), "rows", "Book.rows", defArgs sBookRows, defBody sBookRows, defScope sBookRows, [], []⟩
def dBookFree : He.DefD := ⟨("Book", some "free"), "free", "Book.free", defArgs sBookFree, defBody sBookFree, defScope sBookFree, [], []⟩
def dDrawing : He.DefD := ⟨("drawing", none), "drawing", "drawing", defArgs sDrawing, defBody sDrawing, defScope sDrawing, [], []⟩
def dLack : He.DefD := ⟨("lack", none), "lack", "lack", defArgs sLack, defBody sLack, defScope sLack, [], []⟩
def dIsInteger : He.DefD := ⟨("is_integer", none), "is_integer", "is_integer", defArgs sIsInteger, defBody sIsInteger, defScope sIsInteger, [], []⟩
def dIsPrice : He.DefD := ⟨("is_price", none), "is_price", "is_price", defArgs sIsPrice, defBody sIsPrice, defScope sIsPrice, [], []⟩
def dCheckPrices : He.DefD := ⟨("check_prices", none), "check_prices", "check_prices", defArgs sCheckPrices, defBody sCheckPrices, defScope sCheckPrices, [], []⟩
def dTotal : He.DefD := ⟨("total", none), "total", "total", defArgs sTotal, defBody sTotal, defScope sTotal, [], []⟩
def dSearchInit : He.DefD := ⟨("Search", some "__init__"), "__init__", "Search.__init__", defArgs sSearchInit, defBody sSearchInit, defScope sSearchInit, [], []⟩
def dSearchGrow : He.DefD := ⟨("Search", some "grow"), "grow", "Search.grow", defArgs sSearchGrow, defBody sSearchGrow, defScope sSearchGrow, [], []⟩
def dSearchShift : He.DefD := ⟨("Search", some "shift"), "shift", "Search.shift", defArgs sSearchShift, defBody sSearchShift, defScope sSearchShift, [], []⟩
def dSearchTurnOver : He.DefD := ⟨("Search", some "turn_over"), "turn_over", "Search.turn_over", defArgs sSearchTurnOver, defBody sSearchTurnOver, defScope sSearchTurnOver, [], []⟩
def dSolved : He.DefD := ⟨("solved", none), "solved", "solved", defArgs sSolved, defBody sSolved, defScope sSolved, [], []⟩
def dSolvedBook : He.DefD := ⟨("solved_book", none), "solved_book", "solved_book", defArgs sSolvedBook, defBody sSolvedBook, defScope sSolvedBook, [], []⟩
def dCheapest : He.DefD := ⟨("cheapest", none), "cheapest", "cheapest", defArgs sCheapest, defBody sCheapest, defScope sCheapest, [], []⟩
def dRowsUpTo : He.DefD := ⟨("rows_up_to", none), "rows_up_to", "rows_up_to", defArgs sRowsUpTo, defBody sRowsUpTo, defScope sRowsUpTo, [], []⟩
def dGreatest : He.DefD := ⟨("greatest", none), "greatest", "greatest", defArgs sGreatest, defBody sGreatest, defScope sGreatest, [], []⟩
def dGreatestLack : He.DefD := ⟨("greatest_lack", none), "greatest_lack", "greatest_lack", defArgs sGreatestLack, defBody sGreatestLack, defScope sGreatestLack, [], []⟩
def dLawCell : He.DefD := ⟨("_law_cell", none), "_law_cell", "_law_cell", defArgs sLawCell, defBody sLawCell, defScope sLawCell, [], []⟩
def dLawDraws : He.DefD := ⟨("_law_draws", none), "_law_draws", "_law_draws", defArgs sLawDraws, defBody sLawDraws, defScope sLawDraws, [], []⟩
def dLawPeople : He.DefD := ⟨("_law_people", none), "_law_people", "_law_people", defArgs sLawPeople, defBody sLawPeople, defScope sLawPeople, [], []⟩
def dLawBarred : He.DefD := ⟨("_law_barred", none), "_law_barred", "_law_barred", defArgs sLawBarred, defBody sLawBarred, defScope sLawBarred, [], []⟩
def dLawHidden : He.DefD := ⟨("_law_hidden", none), "_law_hidden", "_law_hidden", defArgs sLawHidden, defBody sLawHidden, defScope sLawHidden, [], []⟩
def dLawLot : He.DefD := ⟨("_law_lot", none), "_law_lot", "_law_lot", defArgs sLawLot, defBody sLawLot, defScope sLawLot, [], []⟩
def dLawLeak : He.DefD := ⟨("_law_leak", none), "_law_leak", "_law_leak", defArgs sLawLeak, defBody sLawLeak, defScope sLawLeak, [], []⟩
def dLawLets : He.DefD := ⟨("_law_lets", none), "_law_lets", "_law_lets", defArgs sLawLets, defBody sLawLets, defScope sLawLets, [], []⟩
def dLawKept : He.DefD := ⟨("_law_kept", none), "_law_kept", "_law_kept", defArgs sLawKept, defBody sLawKept, defScope sLawKept, [], []⟩
def dLawMended : He.DefD := ⟨("_law_mended", none), "_law_mended", "_law_mended", defArgs sLawMended, defBody sLawMended, defScope sLawMended, [], []⟩
def dLawWorld : He.DefD := ⟨("_law_world", none), "_law_world", "_law_world", defArgs sLawWorld, defBody sLawWorld, defScope sLawWorld, [], []⟩
def dLawRows : He.DefD := ⟨("_law_rows", none), "_law_rows", "_law_rows", defArgs sLawRows, defBody sLawRows, defScope sLawRows, [], []⟩
def dLawIsDrawing : He.DefD := ⟨("_law_is_drawing", none), "_law_is_drawing", "_law_is_drawing", defArgs sLawIsDrawing, defBody sLawIsDrawing, defScope sLawIsDrawing, [], []⟩
def dLawEqual : He.DefD := ⟨("_law_equal", none), "_law_equal", "_law_equal", defArgs sLawEqual, defBody sLawEqual, defScope sLawEqual, [], []⟩
def dLawPrice : He.DefD := ⟨("_law_price", none), "_law_price", "_law_price", defArgs sLawPrice, defBody sLawPrice, defScope sLawPrice, [], []⟩
def dLawPrices : He.DefD := ⟨("_law_prices", none), "_law_prices", "_law_prices", defArgs sLawPrices, defBody sLawPrices, defScope sLawPrices, [], []⟩
def dLawRefused : He.DefD := ⟨("_law_refused", none), "_law_refused", "_law_refused", defArgs sLawRefused, defBody sLawRefused, defScope sLawRefused, [], []⟩
def dLawIsLack : He.DefD := ⟨("_law_is_lack", none), "_law_is_lack", "_law_is_lack", defArgs sLawIsLack, defBody sLawIsLack, defScope sLawIsLack, [], []⟩
def dLawGreatestOf : He.DefD := ⟨("_law_greatest_of", none), "_law_greatest_of", "_law_greatest_of", defArgs sLawGreatestOf, defBody sLawGreatestOf, defScope sLawGreatestOf, [], []⟩
def dLaw : He.DefD := ⟨("law", none), "law", "law", defArgs sLaw, defBody sLaw, defScope sLaw, [], []⟩
def fn : List He.DefD := [dSeek, dPaired, dShortLot, dTakersOf, dIsName, dIsPerson, dAreDifferent, dIsPair, dCheckPeople, dCheckPairs, dCheckName, dPartyInit, dPartyPeople, dPartyMay, dPartyContains, dIsLot, dIsLeak, dLets, dAllLet, dBookInit, dBookParty, dBookRows, dBookFree, dDrawing, dLack, dIsInteger, dIsPrice, dCheckPrices, dTotal, dSearchInit, dSearchGrow, dSearchShift, dSearchTurnOver, dSolved, dSolvedBook, dCheapest, dRowsUpTo, dGreatest, dGreatestLack, dLawCell, dLawDraws, dLawPeople, dLawBarred, dLawHidden, dLawLot, dLawLeak, dLawLets, dLawKept, dLawMended, dLawWorld, dLawRows, dLawIsDrawing, dLawEqual, dLawPrice, dLawPrices, dLawRefused, dLawIsLack, dLawGreatestOf, dLaw]
def fa : List He.Fa := [.glo "seek", .glo "paired", .glo "short_lot", .glo "takers_of", .glo "is_name", .glo "is_person", .glo "are_different", .glo "is_pair", .glo "check_people", .glo "check_pairs", .glo "check_name", .glo "is_lot", .glo "is_leak", .glo "lets", .glo "all_let", .glo "drawing", .glo "lack", .glo "is_integer", .glo "is_price", .glo "check_prices", .glo "total", .glo "solved", .glo "solved_book", .glo "cheapest", .glo "rows_up_to", .glo "greatest", .glo "greatest_lack", .glo "_law_cell", .glo "_law_draws", .glo "_law_people", .glo "_law_barred", .glo "_law_hidden", .glo "_law_lot", .glo "_law_leak", .glo "_law_lets", .glo "_law_kept", .glo "_law_mended", .glo "_law_world", .glo "_law_rows", .glo "_law_is_drawing", .glo "_law_equal", .glo "_law_price", .glo "_law_prices", .glo "_law_refused", .glo "_law_is_lack", .glo "_law_greatest_of", .glo "law", .glo "Party", .glo "Book", .glo "Search", .glo "Empty", .free "len", .free "int", .free "isinstance", .free "str", .free "bool", .free "tuple", .free "list", .free "dict", .free "enumerate", .free "sorted", .free "range", .free "min", .free "max", .free "all", .free "sum", .int "MOST_PEOPLE" 24, .int "MOST_BARRED" 600, .int "MOST_LEAKS" 40, .int "MOST_PRICE" (10 ^ 30), .str "LETTERS" "abcdefghijklmnopqrstuvwxyz", .cls "Party", .mkr "Party", .noat "Party" "_people", .noat "Party" "_closed", .meth "Party" "people", .meth "Party" "may", .meth "Party" "__contains__", .cls "Book", .mkr "Book", .noat "Book" "_party", .noat "Book" "_leaks", .noat "Book" "_rows", .meth "Book" "party", .meth "Book" "rows", .meth "Book" "free", .cls "Search", .mkr "Search", .noat "Search" "ahead", .noat "Search" "priced", .noat "Search" "of_givers", .noat "Search" "of_takers", .noat "Search" "held_by", .meth "Search" "grow", .meth "Search" "shift", .meth "Search" "turn_over", .exc "Empty", .exm "Empty" "Empty" true]
def loose0 : List PySem.Str := ["_wall", "GiftError", "BadPeople", "BadPair", "BadLeak", "NoLeak", "NoName", "UnlikeParties", "Empty", "BadPrices", "seek", "paired", "short_lot", "takers_of", "LETTERS", "MOST_PEOPLE", "MOST_BARRED", "is_name", "is_person", "are_different", "is_pair", "check_people", "check_pairs", "check_name", "Party", "MOST_LEAKS", "is_lot", "is_leak", "lets", "all_let"]
def loose1 : List PySem.Str := ["Book", "drawing", "lack", "MOST_PRICE", "is_integer", "is_price", "check_prices", "total", "Search", "solved", "solved_book", "cheapest", "rows_up_to", "greatest", "greatest_lack", "_law_cell", "_law_draws", "_law_people", "_law_barred", "_law_hidden", "_law_lot", "_law_leak", "_law_lets", "_law_kept", "_law_mended", "_law_world", "_law_rows", "_law_is_drawing", "_law_equal", "_law_price"]
def loose2 : List PySem.Str := ["_law_prices", "_law_total", "_law_refused", "_law_is_lack", "_law_greatest_of"]
def loose : List PySem.Str := loose0 ++ loose1 ++ loose2
abbrev R : PySem.W.OpenRow := PySem.W.OpenLaw.row PySem.Challenge.rw_giftrings_k89_whole_greatest_price_or_la
abbrev qv : Program := PySem.W.view R.prog [71]
end GF

/- HeadB -/
set_option Elab.async false
set_option linter.all false
set_option maxRecDepth 100000
set_option maxHeartbeats 0
namespace GF
abbrev hk : PySem.W.Hook := He.hookD 5 fa fn
def ob (s : PySem.W.SharedT) : He.AlD := He.obsDG 5 fa fn (HandSHeadRun.getT s)
theorem ob_eq (s : PySem.W.SharedT) : ob s = hk.obs s.abs := He.obsDG_eq (HandSHeadRun.getT_eq s)
theorem run (w : PySem.World) : HandSHeadRun.RunEq R qv hk ob 6000 loose w := by
  intro os
  kernel_rfl
end GF

/- GBase -/
set_option Elab.async false
set_option linter.all false
set_option maxRecDepth 100000
set_option maxHeartbeats 4000000
/-! What the walks lean on: the names' facts, calls by them, data as it lies in the abstract heap, frames. -/
namespace GF
open PySem PySem.Spec PyProof.Rows L2 GR

/-! ### the facts of the top -/
structure Tx (K : PySem.W.Frag) (mg : Str → Option Value) : Prop where
  says : He.SaysD fa fn K
  at_ : ∃ h, K.In h ∧ h.Ns mainGlobals mg
section
variable {K : PySem.W.Frag} {mg : Str → Option Value}
theorem Tx.g (T : Tx K mg) (i : Nat) {x : Str} (h : fa[i]? = some (.glo x)) : mg x = some (.ref (He.ga K x)) := by
  obtain ⟨h0, X, G⟩ := T.at_
  exact He.glo_ok X G (T.says.fact i h)
theorem Tx.f (T : Tx K mg) (i : Nat) {x : Str} (h : fa[i]? = some (.free x)) : mg x = none := by
  obtain ⟨h0, X, G⟩ := T.at_
  exact He.free_ok X G (T.says.fact i h)
theorem Tx.i (T : Tx K mg) (i : Nat) {x : Str} {n : Int} (h : fa[i]? = some (.int x n)) : ∃ t, mg x = some (.int n t) := by
  obtain ⟨h0, X, G⟩ := T.at_
  exact He.int_ok X G (T.says.fact i h)
theorem Tx.s (T : Tx K mg) (i : Nat) {x z : Str} (h : fa[i]? = some (.str x z)) : ∃ t, mg x = some (.str z t) := by
  obtain ⟨h0, X, G⟩ := T.at_
  exact He.str_ok X G (T.says.fact i h)
theorem Tx.c (T : Tx K mg) (i : Nat) {x : Str} (h : fa[i]? = some (.cls x)) : Cls K (He.ga K x) := He.cls_ok (T.says.fact i h)
theorem Tx.n (T : Tx K mg) (i : Nat) {x f : Str} (h : fa[i]? = some (.noat x f)) : NoAttr K (He.ga K x) f := He.noat_ok (T.says.fact i h)
theorem Tx.m (T : Tx K mg) (i : Nat) {x f : Str} (h : fa[i]? = some (.meth x f)) : Meth K (He.ga K x) f (He.ma K (He.ga K x) f) := He.meth_ok (T.says.fact i h)
theorem Tx.k (T : Tx K mg) (i : Nat) {x : Str} (h : fa[i]? = some (.mkr x)) : Mk K (He.ga K x) (He.ma K (He.ga K x) "__init__") := He.mkr_ok (T.says.fact i h)
end

/-- a def of the text keeps its promise; how it is called -/
structure Ok (P : Program) (w : World) (K : PySem.W.Frag) (mg : Str → Option Value) (base : Heap) (CX : CXT) (k : Nat) (d : He.DefD) (ps : List Str) (sp : Sp) : Prop where
  ex : ∃ fd, FnOk P w K mg base CX k (He.fAd K d.at_) fd ps sp ∧ Binds K fd ps []
  kp : PySem.W.keepIn K (.ref (He.fAd K d.at_)) = true
section
variable {P : Program} {w : World} {K : PySem.W.Frag} {mg : Str → Option Value} {base : Heap} {CX : CXT} {k : Nat} {d : He.DefD} {ps : List Str} {sp : Sp}
/-- THE RULE: the body as a term, its reading (nothing is raised) -/
theorem Ok.mk0 (T : Tx K mg) (i : Nat) (hi : fn[i]? = some d) {N : List Str} (S : FnScope N ps d.scope)
    (hb : ∀ (kV doc pm : Value) (an : Option Addr) (cdv ct : Value) (us : List Value), us.length = ps.length → bindArgs (PySem.W.fnOf d.name d.qual d.params d.body d.scope .none kV doc pm an cdv ct) ⟨us, []⟩ = pure (ps.zip us))
    (len : ∀ vs H Q E, sp vs H Q E → vs.length = ps.length)
    (hbody : ∀ (f : Addr) (cdv : Value) (A : Around) (outer : List Env) (s : Shared) (H : Hp) (vs : List V) (Q : VK) (E : XK), Room k (A.deeper (envOfC d.qual d.scope s.heap.objs.size f cdv)) → sp vs H Q E →
      ∃ t, PSs (cxOf CX0 P w K mg base N d.qual d.scope f cdv A outer s H E).nox d.body t ∧ t { nx := fun _ H' => Q .non H', rt := Q } (start N vs) H) (hd : d.dfl = [] := by rfl) (hk : d.kwd = [] := by rfl) : Ok P w K mg base CX0 (k + 1) d ps sp := by
  obtain ⟨fd, F⟩ := T.says.def_ i hi
  unfold He.DefD.dvs He.DefD.kws at F
  rw [hd, hk] at F
  refine ⟨⟨fd, FunD.ok F S len fun cdv A outer s H vs Q E hr hsp => ?_, FunD.bindsN F hb⟩, F.kp⟩
  obtain ⟨t, h, q⟩ := hbody _ cdv A outer s H vs Q E hr hsp
  exact ⟨t, h.nox, q⟩
theorem Ok.mkX (T : Tx K mg) (i : Nat) (hi : fn[i]? = some d) {N : List Str} (S : FnScope N ps d.scope)
    (hb : ∀ (kV doc pm : Value) (an : Option Addr) (cdv ct : Value) (us : List Value), us.length = ps.length → bindArgs (PySem.W.fnOf d.name d.qual d.params d.body d.scope .none kV doc pm an cdv ct) ⟨us, []⟩ = pure (ps.zip us))
    (len : ∀ vs H Q E, sp vs H Q E → vs.length = ps.length)
    (hbody : ∀ (f : Addr) (cdv : Value) (A : Around) (outer : List Env) (s : Shared) (H : Hp) (vs : List V) (Q : VK) (E : XK), Room k (A.deeper (envOfC d.qual d.scope s.heap.objs.size f cdv)) → sp vs H Q E →
      ∃ t, PSs (cxOf (L2.CX P w) P w K mg base N d.qual d.scope f cdv A outer s H E) d.body t ∧ t { nx := fun _ H' => Q .non H', rt := Q } (start N vs) H) (hd : d.dfl = [] := by rfl) (hk : d.kwd = [] := by rfl) : Ok P w K mg base (L2.CX P w) (k + 1) d ps sp := by
  obtain ⟨fd, F⟩ := T.says.def_ i hi
  unfold He.DefD.dvs He.DefD.kws at F
  rw [hd, hk] at F
  exact ⟨⟨fd, FunD.ok F S len fun cdv A outer s H vs Q E hr hsp => hbody _ cdv A outer s H vs Q E hr hsp, FunD.bindsN F hb⟩, F.kp⟩
theorem Ok.mono {j : Nat} (O : Ok P w K mg base CX j d ps sp) (h : j ≤ k) : Ok P w K mg base CX k d ps sp := by
  obtain ⟨⟨fd, F, b⟩, kp⟩ := O
  exact ⟨⟨fd, F.mono h, b⟩, kp⟩
/-- a promise that nobody may ask for -/
theorem Ok.never (T : Tx K mg) (i : Nat) (hi : fn[i]? = some d)
    (hb : ∀ (kV doc pm : Value) (an : Option Addr) (cdv ct : Value) (us : List Value), us.length = ps.length → bindArgs (PySem.W.fnOf d.name d.qual d.params d.body d.scope .none kV doc pm an cdv ct) ⟨us, []⟩ = pure (ps.zip us))
    (no : ∀ vs H Q E, ¬ sp vs H Q E) (hd : d.dfl = [] := by rfl) (hk : d.kwd = [] := by rfl) : Ok P w K mg base CX 0 d ps sp := by
  obtain ⟨fd, F⟩ := T.says.def_ i hi
  unfold He.DefD.dvs He.DefD.kws at F
  rw [hd, hk] at F
  exact ⟨⟨fd, ⟨fun vs H Q E h => (no vs H Q E h).elim, fun A outer s H args us vs Q E _ _ _ _ h => (no vs H Q E h).elim⟩, FunD.bindsN F hb⟩, F.kp⟩
end
section
variable {X : Cx} {CX : CXT} {k j : Nat} {d : He.DefD} {ps : List Str} {sp : Sp} {x m : Str} {p pos apos : Pos} {e o : Expr} {es : List Expr} {ta : TE} {t : TA} {E : XK}
/-- f(e, ..) -/
theorem pc (O : Ok X.prog X.w X.K X.mg X.base CX j d ps sp) (hr : Room k X.A) (hj : j ≤ k) (hm : X.mg x = some (.ref (He.fAd X.K d.at_))) (hx : Passes CX X E) (ha : PA X (e :: es) t) (hg : Gl X x := by rfl)
    (hdb : (x == ("__debug__" : Str)) = false := by decide) (he : starEach (e :: es) X.env = (false, eval e X.env) :: starEach es X.env := by rfl) (hpl : (backTo pos (starEach es X.env)).any (·.1) = false := by rfl) :
    PE X (.Call (.Name x p) (e :: es) [] pos) (tCall sp [] E t) := by
  obtain ⟨⟨fd, F, b⟩, kp⟩ := O
  exact pe_call F (hr.mono hj) hg hm kp b .nil hx ha hdb he hpl
/-- o.m(e, ..) -/
theorem pm {c : Str} (O : Ok X.prog X.w X.K X.mg X.base CX j d ps sp) (hr : Room k X.A) (hj : j ≤ k) (hc : Cls X.K (He.ga X.K c)) (hm : Meth X.K (He.ga X.K c) m (He.fAd X.K d.at_)) (hx : Passes CX X E) (ho : PE X o ta) (ha : PA X (e :: es) t)
    {pl : Sem Bool} (hb : PE X (.Call (.Attribute o m apos) (e :: es) [] pos) (tMeth (He.ga X.K c) m sp [] E ta t)) : PE X (.Call (.Attribute o m apos) (e :: es) [] pos) (tMeth (He.ga X.K c) m sp [] E ta t) := hb
end

/-! ### data -/
/-- what may be locked, and what never is -/
def Pl : HO → Prop
  | .lst _ => True
  | .dK _ => True
  | .dT _ => True
  | _ => False
def Fx : HO → Prop
  | .tup _ => True
  | .ins _ _ _ => True
  | _ => False
def NF : HO → Prop
  | .frz _ _ => False
  | _ => True
structure Lq (H H' : Hp) : Prop where
  rd : ∀ a u, NF u → Rd H a u → Rd H' a u
  fx : ∀ a u, Fx u → H a = some u → H' a = some u
theorem Lq.refl (H : Hp) : Lq H H := ⟨fun _ _ _ h => h, fun _ _ _ h => h⟩
theorem Lq.trans {H H1 H2 : Hp} (a : Lq H H1) (b : Lq H1 H2) : Lq H H2 := ⟨fun x u p h => b.rd x u p (a.rd x u p h), fun x u p h => b.fx x u p (a.fx x u p h)⟩
theorem Lq.of {H H' : Hp} (s : Same H H') : Lq H H' := ⟨fun a u _ h => h.elim (fun h => .inl (s _ _ h)) fun ⟨o, h⟩ => .inr ⟨o, s _ _ h⟩, fun a u _ h => s _ _ h⟩
theorem Lq.lock {H : Hp} {d : Addr} {u : HO} (od : Obj) (h : H d = some u) (p : Pl u) : Lq H (upd H d (.frz od u)) := by
  refine ⟨fun a v pv hv => ?_, fun a v fv hv => ?_⟩
  · by_cases e : a = d
    · subst e
      rcases hv with hv | ⟨o, hv⟩
      · rw [h] at hv
        cases hv
        exact .inr ⟨od, upd_same⟩
      · rw [h] at hv
        cases hv
        exact p.elim
    · rcases hv with hv | ⟨o, hv⟩
      · exact .inl (by rw [upd_ne e]; exact hv)
      · exact .inr ⟨o, by rw [upd_ne e]; exact hv⟩
  · have e : a ≠ d := fun e => by
      subst e
      rw [h] at hv
      cases hv
      cases u <;> first | exact p.elim | exact fv.elim
    rw [upd_ne e]
    exact hv
theorem Lq.unlock {H : Hp} {d : Addr} {u : HO} {od : Obj} (h : H d = some (.frz od u)) : Lq H (upd H d u) := by
  refine ⟨fun a v pv hv => ?_, fun a v fv hv => ?_⟩
  · by_cases e : a = d
    · subst e
      rcases hv with hv | ⟨o, hv⟩
      · rw [h] at hv
        cases hv
        exact pv.elim
      · rw [h] at hv
        cases hv
        exact .inl upd_same
    · rcases hv with hv | ⟨o, hv⟩
      · exact .inl (by rw [upd_ne e]; exact hv)
      · exact .inr ⟨o, by rw [upd_ne e]; exact hv⟩
  · have e : a ≠ d := fun e => by
      subst e
      rw [h] at hv
      cases hv
      exact fv.elim
    rw [upd_ne e]
    exact hv
theorem Same.unlock {H H' : Hp} {d : Addr} {u : HO} {od : Obj} (h : H d = some u) (s : Same (upd H d (.frz od u)) H') : Same H (upd H' d u) := fun b o e => by
  by_cases q : b = d
  · subst q
    rw [upd_same, ← h]
    exact e
  · rw [upd_ne q]
    exact s b o (by rw [upd_ne q]; exact e)
theorem Same.new {H : Hp} {p : Addr} {o : HO} (h : H p = none) : Same H (upd H p o) := fun a u e => by
  rw [upd_ne (ne_of_none e h)]
  exact e
/-- what was not there may change -/
theorem Same.mut {H H' : Hp} {p : Addr} {o : HO} (s : Same H H') (h : H p = none) : Same H (upd H' p o) := fun a u e => by
  rw [upd_ne (ne_of_none e h)]
  exact s a u e
theorem Same.new' {H H' : Hp} {p : Addr} {o : HO} (s : Same H H') (h : H' p = none) : Same H (upd H' p o) := s.trans (Same.new h)
theorem Lq.sqT {K : PySem.W.Frag} {H H' : Hp} (l : Lq H H') {a : Addr} {xs : List V} (h : SqT K H a xs) : SqT K H' a xs := h.elim (fun h => .inl (l.rd _ _ trivial h)) .inr
theorem Lq.sqL {K : PySem.W.Frag} {H H' : Hp} (l : Lq H H') {a : Addr} {xs : List V} (h : SqL K H a xs) : SqL K H' a xs := h.elim (fun h => .inl (l.rd _ _ trivial h)) .inr
/-- all but the objects in S -/
def But (S : List Addr) (H H' : Hp) : Prop := ∀ b o, b ∉ S → H b = some o → H' b = some o
theorem But.refl (S : List Addr) (H : Hp) : But S H H := fun _ _ _ h => h
theorem But.trans {S : List Addr} {H H1 H2 : Hp} (a : But S H H1) (b : But S H1 H2) : But S H H2 := fun c o n h => b c o n (a c o n h)
theorem But.of {S : List Addr} {H H' : Hp} (s : Same H H') : But S H H' := fun b o _ h => s b o h
theorem But.at {S : List Addr} {H : Hp} {p : Addr} {o : HO} (h : p ∈ S) : But S H (upd H p o) := fun b u n e => by
  rw [upd_ne (fun z : b = p => n (by rw [z]; exact h))]
  exact e
theorem But.rd {S : List Addr} {H H' : Hp} (s : But S H H') {a : Addr} {u : HO} (n : a ∉ S) (h : Rd H a u) : Rd H' a u := h.elim (fun h => .inl (s a _ n h)) fun ⟨o, h⟩ => .inr ⟨o, s a _ n h⟩
/-- where all of S is new, or was not there -/
theorem But.same {S : List Addr} {H H' : Hp} (s : But S H H') (h : ∀ a, a ∈ S → H a = none) : Same H H' := fun b o e => s b o (fun m => by rw [h b m] at e; cases e) e
theorem rd_lst_ne {H : Hp} {a b : Addr} {xs : List V} {u : HO} (h : Rd H a (.lst xs)) (h' : H b = some u) (n : ∀ ys, u ≠ .lst ys) (n2 : ∀ o v, u ≠ .frz o v) : a ≠ b := fun e => by
  subst e
  rcases h with h | ⟨o, h⟩
  · rw [h'] at h
    cases h
    exact n _ rfl
  · rw [h'] at h
    cases h
    exact n2 _ _ rfl

/-! ### dicts by plain lists -/
section
variable {α β κ : Type} [DecidableEq α] [DecidableEq κ]
def mp (f : α → κ) (h : β → V) (l : List (α × β)) : List (κ × V) := l.map fun p => (f p.1, h p.2)
theorem valV_mp {f : α → κ} (hf : ∀ a b, f a = f b → a = b) (h : β → V) : ∀ (l : List (α × β)) (k : α), valV (mp f h l) (f k) = (gt l k).map h
  | [], k => rfl
  | p :: l, k => by
    have ih := valV_mp hf h l k
    rw [gt_cons]
    by_cases e : p.1 = k
    · rw [if_pos e]
      show valV ((f p.1, h p.2) :: mp f h l) (f k) = _
      rw [valV_pos (by rw [e])]
      rfl
    · rw [if_neg e]
      show valV ((f p.1, h p.2) :: mp f h l) (f k) = _
      rw [valV_neg fun z => e (hf _ _ z)]
      exact ih
theorem any_mp {f : α → κ} (hf : ∀ a b, f a = f b → a = b) (h : β → V) (l : List (α × β)) (k : α) : ((mp f h l).any fun kv => decide (kv.1 = f k)) = (l.any fun p => decide (p.1 = k)) := by
  unfold mp
  rw [List.any_map]
  congr 1
  funext p
  show decide (f p.1 = f k) = decide (p.1 = k)
  by_cases e : p.1 = k
  · rw [e]; simp
  · rw [decide_eq_false e, decide_eq_false fun z => e (hf _ _ z)]
theorem putK_mp {f : α → κ} (hf : ∀ a b, f a = f b → a = b) (h : β → V) (l : List (α × β)) (k : α) (v : β) : putK (mp f h l) (f k) (h v) = mp f h (put l k v) := by
  unfold putK put
  rw [any_mp hf h l k]
  by_cases c : (l.any fun p => decide (p.1 = k)) = true
  · rw [if_pos c, if_pos c]
    unfold mp
    rw [List.map_map, List.map_map]
    apply List.map_congr_left
    intro p _
    show (if f p.1 = f k then (f p.1, h v) else (f p.1, h p.2)) = (f (if p.1 = k then (p.1, v) else p).1, h (if p.1 = k then (p.1, v) else p).2)
    by_cases e : p.1 = k
    · rw [if_pos (by rw [e]), if_pos e]
    · rw [if_neg fun z => e (hf _ _ z), if_neg e]
  · rw [if_neg c, if_neg c]
    unfold mp
    rw [List.map_append]
    rfl
theorem mp_len (f : α → κ) (h : β → V) (l : List (α × β)) : (mp f h l).length = l.length := List.length_map _
end
def ks (x : Str) : Key := .inr x
theorem ks_inj : ∀ a b : Str, ks a = ks b → a = b := fun a b e => Sum.inr.inj e
theorem kV_ks (x : Str) : kV (ks x) = .str x := rfl
def k2 (p : Str × Str) : List Key := [.inr p.1, .inr p.2]
theorem k2_inj : ∀ a b : Str × Str, k2 a = k2 b → a = b := fun a b e => by
  unfold k2 at e
  simp only [List.cons.injEq, Sum.inr.injEq, and_true] at e
  exact Prod.ext e.1 e.2
theorem k2_map (p : Str × Str) : (k2 p).map kV = [.str p.1, .str p.2] := rfl
/-- a dict of texts to texts | to True -/
abbrev dS (l : List (Str × Str)) : HO := .dK (mp ks V.str l)
def mkB (l : List Str) : List (Str × Bool) := l.map fun x => (x, true)
abbrev dB (l : List Str) : HO := .dK (mp ks V.bl (mkB l))
theorem keys_mkB (l : List Str) : keys (mkB l) = l := by
  unfold keys mkB
  rw [List.map_map]
  exact List.map_id _
theorem gt_mkB {l : List Str} {x : Str} : gt (mkB l) x = if x ∈ l then some true else none := by
  by_cases h : x ∈ l
  · rw [if_pos h]
    obtain ⟨v, e⟩ := gt_key_some (l := mkB l) (k := x) (by rw [keys_mkB]; exact h)
    have m := gt_mem e
    unfold mkB at m
    obtain ⟨y, _, q⟩ := List.mem_map.mp m
    cases q
    exact e
  · rw [if_neg h]
    exact gt_none_iff.mpr (by rw [keys_mkB]; exact h)
theorem put_mkB {l : List Str} {x : Str} (h : x ∉ l) : put (mkB l) x true = mkB (l ++ [x]) := by
  rw [put_new true (by rw [keys_mkB]; exact h)]
  unfold mkB
  rw [List.map_append]
  rfl
theorem mkB_len (l : List Str) : (mkB l).length = l.length := List.length_map _
section
variable {H : Hp} {a : Addr}
theorem dget_s {β : Type} {h : β → V} {l : List (Str × β)} (r : Rd H a (.dK (mp ks h l))) (x : Str) : DGet H a (.str x) ((gt l x).map h) := .inl ⟨_, ks x, r, rfl, (valV_mp ks_inj h l x).symm⟩
theorem dput_s {β : Type} {h : β → V} {l : List (Str × β)} (r : H a = some (.dK (mp ks h l))) (x : Str) (v : β) (z : l.length < sizeLine) : DPut H a (.str x) (h v) (upd H a (.dK (mp ks h (put l x v)))) := by
  rw [← putK_mp ks_inj h l x v]
  exact DPut.k (k := ks x) r (by rw [mp_len]; exact z)
theorem dget_t {β : Type} {h : β → V} {l : List ((Str × Str) × β)} (r : Rd H a (.dT (mp k2 h l))) {b : Addr} {x : Str × Str} (hb : H b = some (.tup [.str x.1, .str x.2])) : DGet H a (.ref b) ((gt l x).map h) := .inr ⟨_, k2 x, b, r, rfl, hb, (valV_mp k2_inj h l x).symm⟩
theorem dput_t {β : Type} {h : β → V} {l : List ((Str × Str) × β)} (r : H a = some (.dT (mp k2 h l))) {b : Addr} {x : Str × Str} (hb : H b = some (.tup [.str x.1, .str x.2])) (v : β) (z : l.length < sizeLine) : DPut H a (.ref b) (h v) (upd H a (.dT (mp k2 h (put l x v)))) := by
  rw [← putK_mp k2_inj h l x v]
  exact DPut.t (k := k2 x) r hb (by rw [mp_len]; exact z)
end
theorem sz1000 {n : Nat} (h : n ≤ 100000) : n < sizeLine := by rw [sizeLine_eq]; omega
theorem sz1000' {n : Nat} (h : n ≤ 100000) : n ≤ sizeLine := by rw [sizeLine_eq]; omega

/-! ### rows: each giver with a list of takers -/
structure RowsAt (H : Hp) (r : Addr) (gs : List Str) (ad : Str → Addr) (rw_ : Str → List Str) : Prop where
  dk : Rd H r (.dK (mp ks V.ref (gs.map fun g => (g, ad g))))
  ls : ∀ g, g ∈ gs → Rd H (ad g) (.lst ((rw_ g).map V.str))
theorem gt_fn {β : Type} {f : Str → β} : ∀ {gs : List Str} {g : Str}, gt (gs.map fun g => (g, f g)) g = if g ∈ gs then some (f g) else none
  | [], g => by simp [gt]
  | x :: l, g => by
    rw [List.map_cons, gt_cons, gt_fn (gs := l)]
    by_cases e : x = g
    · subst e
      simp
    · have e' : ¬ g = x := fun z => e z.symm
      simp [e, e']
theorem keys_fn {β : Type} {f : Str → β} (gs : List Str) : keys (gs.map fun g => (g, f g)) = gs := by
  unfold keys
  rw [List.map_map]
  exact List.map_id _
section
variable {H H' : Hp} {r : Addr} {gs : List Str} {ad : Str → Addr} {rw_ : Str → List Str}
theorem RowsAt.lq (h : RowsAt H r gs ad rw_) (l : Lq H H') : RowsAt H' r gs ad rw_ := ⟨l.rd _ _ trivial h.dk, fun g hg => l.rd _ _ trivial (h.ls g hg)⟩
theorem RowsAt.same (h : RowsAt H r gs ad rw_) (s : Same H H') : RowsAt H' r gs ad rw_ := h.lq (Lq.of s)
theorem RowsAt.get (h : RowsAt H r gs ad rw_) {g : Str} (hg : g ∈ gs) : DGet H r (.str g) (some (.ref (ad g))) := by
  have e := dget_s h.dk g
  rw [gt_fn, if_pos hg] at e
  exact e
theorem RowsAt.seq {K : PySem.W.Frag} (h : RowsAt H r gs ad rw_) {g : Str} (hg : g ∈ gs) : SqL K H (ad g) ((rw_ g).map V.str) := .inl (h.ls g hg)
theorem RowsAt.but {S : List Addr} (h : RowsAt H r gs ad rw_) (s : But S H H') (n : r ∉ S) (m : ∀ a, a ∈ S → ∃ kvs, H a = some (.dK kvs)) : RowsAt H' r gs ad rw_ :=
  ⟨s.rd n h.dk, fun g hg => s.rd (fun q => by
    obtain ⟨kvs, e⟩ := m _ q
    exact rd_lst_ne (h.ls g hg) e (fun ys z => by cases z) (fun o v z => by cases z) rfl) (h.ls g hg)⟩
end
end GF

/- GNames -/
set_option Elab.async false
set_option linter.all false
set_option maxRecDepth 100000
namespace GF
open PySem PySem.Spec PyProof.Rows L2
section
variable {K : PySem.W.Frag} {mg : Str → Option Value}
theorem Tx.g_seek (T : Tx K mg) : mg "seek" = some (.ref (He.ga K "seek")) := T.g 0 rfl
theorem Tx.g_paired (T : Tx K mg) : mg "paired" = some (.ref (He.ga K "paired")) := T.g 1 rfl
theorem Tx.g_short_lot (T : Tx K mg) : mg "short_lot" = some (.ref (He.ga K "short_lot")) := T.g 2 rfl
theorem Tx.g_takers_of (T : Tx K mg) : mg "takers_of" = some (.ref (He.ga K "takers_of")) := T.g 3 rfl
theorem Tx.g_is_name (T : Tx K mg) : mg "is_name" = some (.ref (He.ga K "is_name")) := T.g 4 rfl
theorem Tx.g_is_person (T : Tx K mg) : mg "is_person" = some (.ref (He.ga K "is_person")) := T.g 5 rfl
theorem Tx.g_are_different (T : Tx K mg) : mg "are_different" = some (.ref (He.ga K "are_different")) := T.g 6 rfl
theorem Tx.g_is_pair (T : Tx K mg) : mg "is_pair" = some (.ref (He.ga K "is_pair")) := T.g 7 rfl
theorem Tx.g_check_people (T : Tx K mg) : mg "check_people" = some (.ref (He.ga K "check_people")) := T.g 8 rfl
theorem Tx.g_check_pairs (T : Tx K mg) : mg "check_pairs" = some (.ref (He.ga K "check_pairs")) := T.g 9 rfl
theorem Tx.g_check_name (T : Tx K mg) : mg "check_name" = some (.ref (He.ga K "check_name")) := T.g 10 rfl
theorem Tx.g_is_lot (T : Tx K mg) : mg "is_lot" = some (.ref (He.ga K "is_lot")) := T.g 11 rfl
theorem Tx.g_is_leak (T : Tx K mg) : mg "is_leak" = some (.ref (He.ga K "is_leak")) := T.g 12 rfl
theorem Tx.g_lets (T : Tx K mg) : mg "lets" = some (.ref (He.ga K "lets")) := T.g 13 rfl
theorem Tx.g_all_let (T : Tx K mg) : mg "all_let" = some (.ref (He.ga K "all_let")) := T.g 14 rfl
theorem Tx.g_drawing (T : Tx K mg) : mg "drawing" = some (.ref (He.ga K "drawing")) := T.g 15 rfl
theorem Tx.g_lack (T : Tx K mg) : mg "lack" = some (.ref (He.ga K "lack")) := T.g 16 rfl
theorem Tx.g_is_integer (T : Tx K mg) : mg "is_integer" = some (.ref (He.ga K "is_integer")) := T.g 17 rfl
theorem Tx.g_is_price (T : Tx K mg) : mg "is_price" = some (.ref (He.ga K "is_price")) := T.g 18 rfl
theorem Tx.g_check_prices (T : Tx K mg) : mg "check_prices" = some (.ref (He.ga K "check_prices")) := T.g 19 rfl
theorem Tx.g_total (T : Tx K mg) : mg "total" = some (.ref (He.ga K "total")) := T.g 20 rfl
theorem Tx.g_solved (T : Tx K mg) : mg "solved" = some (.ref (He.ga K "solved")) := T.g 21 rfl
theorem Tx.g_solved_book (T : Tx K mg) : mg "solved_book" = some (.ref (He.ga K "solved_book")) := T.g 22 rfl
theorem Tx.g_cheapest (T : Tx K mg) : mg "cheapest" = some (.ref (He.ga K "cheapest")) := T.g 23 rfl
theorem Tx.g_rows_up_to (T : Tx K mg) : mg "rows_up_to" = some (.ref (He.ga K "rows_up_to")) := T.g 24 rfl
theorem Tx.g_greatest (T : Tx K mg) : mg "greatest" = some (.ref (He.ga K "greatest")) := T.g 25 rfl
theorem Tx.g_greatest_lack (T : Tx K mg) : mg "greatest_lack" = some (.ref (He.ga K "greatest_lack")) := T.g 26 rfl
theorem Tx.g__law_cell (T : Tx K mg) : mg "_law_cell" = some (.ref (He.ga K "_law_cell")) := T.g 27 rfl
theorem Tx.g__law_draws (T : Tx K mg) : mg "_law_draws" = some (.ref (He.ga K "_law_draws")) := T.g 28 rfl
theorem Tx.g__law_people (T : Tx K mg) : mg "_law_people" = some (.ref (He.ga K "_law_people")) := T.g 29 rfl
theorem Tx.g__law_barred (T : Tx K mg) : mg "_law_barred" = some (.ref (He.ga K "_law_barred")) := T.g 30 rfl
theorem Tx.g__law_hidden (T : Tx K mg) : mg "_law_hidden" = some (.ref (He.ga K "_law_hidden")) := T.g 31 rfl
theorem Tx.g__law_lot (T : Tx K mg) : mg "_law_lot" = some (.ref (He.ga K "_law_lot")) := T.g 32 rfl
theorem Tx.g__law_leak (T : Tx K mg) : mg "_law_leak" = some (.ref (He.ga K "_law_leak")) := T.g 33 rfl
theorem Tx.g__law_lets (T : Tx K mg) : mg "_law_lets" = some (.ref (He.ga K "_law_lets")) := T.g 34 rfl
theorem Tx.g__law_kept (T : Tx K mg) : mg "_law_kept" = some (.ref (He.ga K "_law_kept")) := T.g 35 rfl
theorem Tx.g__law_mended (T : Tx K mg) : mg "_law_mended" = some (.ref (He.ga K "_law_mended")) := T.g 36 rfl
theorem Tx.g__law_world (T : Tx K mg) : mg "_law_world" = some (.ref (He.ga K "_law_world")) := T.g 37 rfl
theorem Tx.g__law_rows (T : Tx K mg) : mg "_law_rows" = some (.ref (He.ga K "_law_rows")) := T.g 38 rfl
theorem Tx.g__law_is_drawing (T : Tx K mg) : mg "_law_is_drawing" = some (.ref (He.ga K "_law_is_drawing")) := T.g 39 rfl
theorem Tx.g__law_equal (T : Tx K mg) : mg "_law_equal" = some (.ref (He.ga K "_law_equal")) := T.g 40 rfl
theorem Tx.g__law_price (T : Tx K mg) : mg "_law_price" = some (.ref (He.ga K "_law_price")) := T.g 41 rfl
theorem Tx.g__law_prices (T : Tx K mg) : mg "_law_prices" = some (.ref (He.ga K "_law_prices")) := T.g 42 rfl
theorem Tx.g__law_refused (T : Tx K mg) : mg "_law_refused" = some (.ref (He.ga K "_law_refused")) := T.g 43 rfl
theorem Tx.g__law_is_lack (T : Tx K mg) : mg "_law_is_lack" = some (.ref (He.ga K "_law_is_lack")) := T.g 44 rfl
theorem Tx.g__law_greatest_of (T : Tx K mg) : mg "_law_greatest_of" = some (.ref (He.ga K "_law_greatest_of")) := T.g 45 rfl
theorem Tx.g_law (T : Tx K mg) : mg "law" = some (.ref (He.ga K "law")) := T.g 46 rfl
theorem Tx.g_Party (T : Tx K mg) : mg "Party" = some (.ref (He.ga K "Party")) := T.g 47 rfl
theorem Tx.g_Book (T : Tx K mg) : mg "Book" = some (.ref (He.ga K "Book")) := T.g 48 rfl
theorem Tx.g_Search (T : Tx K mg) : mg "Search" = some (.ref (He.ga K "Search")) := T.g 49 rfl
theorem Tx.g_Empty (T : Tx K mg) : mg "Empty" = some (.ref (He.ga K "Empty")) := T.g 50 rfl
theorem Tx.f_len (T : Tx K mg) : mg "len" = none := T.f 51 rfl
theorem Tx.f_int (T : Tx K mg) : mg "int" = none := T.f 52 rfl
theorem Tx.f_isinstance (T : Tx K mg) : mg "isinstance" = none := T.f 53 rfl
theorem Tx.f_str (T : Tx K mg) : mg "str" = none := T.f 54 rfl
theorem Tx.f_bool (T : Tx K mg) : mg "bool" = none := T.f 55 rfl
theorem Tx.f_tuple (T : Tx K mg) : mg "tuple" = none := T.f 56 rfl
theorem Tx.f_list (T : Tx K mg) : mg "list" = none := T.f 57 rfl
theorem Tx.f_dict (T : Tx K mg) : mg "dict" = none := T.f 58 rfl
theorem Tx.f_enumerate (T : Tx K mg) : mg "enumerate" = none := T.f 59 rfl
theorem Tx.f_sorted (T : Tx K mg) : mg "sorted" = none := T.f 60 rfl
theorem Tx.f_range (T : Tx K mg) : mg "range" = none := T.f 61 rfl
theorem Tx.f_min (T : Tx K mg) : mg "min" = none := T.f 62 rfl
theorem Tx.f_max (T : Tx K mg) : mg "max" = none := T.f 63 rfl
theorem Tx.f_all (T : Tx K mg) : mg "all" = none := T.f 64 rfl
theorem Tx.f_sum (T : Tx K mg) : mg "sum" = none := T.f 65 rfl
theorem Tx.i_MOST_PEOPLE (T : Tx K mg) : ∃ t, mg "MOST_PEOPLE" = some (.int 24 t) := T.i 66 rfl
theorem Tx.i_MOST_BARRED (T : Tx K mg) : ∃ t, mg "MOST_BARRED" = some (.int 600 t) := T.i 67 rfl
theorem Tx.i_MOST_LEAKS (T : Tx K mg) : ∃ t, mg "MOST_LEAKS" = some (.int 40 t) := T.i 68 rfl
theorem Tx.i_MOST_PRICE (T : Tx K mg) : ∃ t, mg "MOST_PRICE" = some (.int (10 ^ 30) t) := T.i 69 rfl
theorem Tx.s_LETTERS (T : Tx K mg) : ∃ t, mg "LETTERS" = some (.str "abcdefghijklmnopqrstuvwxyz" t) := T.s 70 rfl
theorem Tx.c_Party (T : Tx K mg) : Cls K (He.ga K "Party") := T.c 71 rfl
theorem Tx.k_Party (T : Tx K mg) : Mk K (He.ga K "Party") (He.ma K (He.ga K "Party") "__init__") := T.k 72 rfl
theorem Tx.n_Party_people (T : Tx K mg) : NoAttr K (He.ga K "Party") "_people" := T.n 73 rfl
theorem Tx.n_Party_closed (T : Tx K mg) : NoAttr K (He.ga K "Party") "_closed" := T.n 74 rfl
theorem Tx.m_Party_people (T : Tx K mg) : Meth K (He.ga K "Party") "people" (He.ma K (He.ga K "Party") "people") := T.m 75 rfl
theorem Tx.m_Party_may (T : Tx K mg) : Meth K (He.ga K "Party") "may" (He.ma K (He.ga K "Party") "may") := T.m 76 rfl
theorem Tx.m_Party_contains (T : Tx K mg) : Meth K (He.ga K "Party") "__contains__" (He.ma K (He.ga K "Party") "__contains__") := T.m 77 rfl
theorem Tx.c_Book (T : Tx K mg) : Cls K (He.ga K "Book") := T.c 78 rfl
theorem Tx.k_Book (T : Tx K mg) : Mk K (He.ga K "Book") (He.ma K (He.ga K "Book") "__init__") := T.k 79 rfl
theorem Tx.n_Book_party (T : Tx K mg) : NoAttr K (He.ga K "Book") "_party" := T.n 80 rfl
theorem Tx.n_Book_leaks (T : Tx K mg) : NoAttr K (He.ga K "Book") "_leaks" := T.n 81 rfl
theorem Tx.n_Book_rows (T : Tx K mg) : NoAttr K (He.ga K "Book") "_rows" := T.n 82 rfl
theorem Tx.m_Book_party (T : Tx K mg) : Meth K (He.ga K "Book") "party" (He.ma K (He.ga K "Book") "party") := T.m 83 rfl
theorem Tx.m_Book_rows (T : Tx K mg) : Meth K (He.ga K "Book") "rows" (He.ma K (He.ga K "Book") "rows") := T.m 84 rfl
theorem Tx.m_Book_free (T : Tx K mg) : Meth K (He.ga K "Book") "free" (He.ma K (He.ga K "Book") "free") := T.m 85 rfl
theorem Tx.c_Search (T : Tx K mg) : Cls K (He.ga K "Search") := T.c 86 rfl
theorem Tx.k_Search (T : Tx K mg) : Mk K (He.ga K "Search") (He.ma K (He.ga K "Search") "__init__") := T.k 87 rfl
theorem Tx.n_Search_ahead (T : Tx K mg) : NoAttr K (He.ga K "Search") "ahead" := T.n 88 rfl
theorem Tx.n_Search_priced (T : Tx K mg) : NoAttr K (He.ga K "Search") "priced" := T.n 89 rfl
theorem Tx.n_Search_of_givers (T : Tx K mg) : NoAttr K (He.ga K "Search") "of_givers" := T.n 90 rfl
theorem Tx.n_Search_of_takers (T : Tx K mg) : NoAttr K (He.ga K "Search") "of_takers" := T.n 91 rfl
theorem Tx.n_Search_held_by (T : Tx K mg) : NoAttr K (He.ga K "Search") "held_by" := T.n 92 rfl
theorem Tx.m_Search_grow (T : Tx K mg) : Meth K (He.ga K "Search") "grow" (He.ma K (He.ga K "Search") "grow") := T.m 93 rfl
theorem Tx.m_Search_shift (T : Tx K mg) : Meth K (He.ga K "Search") "shift" (He.ma K (He.ga K "Search") "shift") := T.m 94 rfl
theorem Tx.m_Search_turn_over (T : Tx K mg) : Meth K (He.ga K "Search") "turn_over" (He.ma K (He.ga K "Search") "turn_over") := T.m 95 rfl
theorem Tx.x_Empty (T : Tx K mg) : (He.Fa.exc "Empty").ok K = true := T.says.fact 96 rfl
theorem Tx.e_Empty (T : Tx K mg) : (He.Fa.exm "Empty" "Empty" true).ok K = true := T.says.fact 97 rfl
end
theorem ixSeek : fn[0]? = some dSeek := rfl
theorem ixPaired : fn[1]? = some dPaired := rfl
theorem ixShortLot : fn[2]? = some dShortLot := rfl
theorem ixTakersOf : fn[3]? = some dTakersOf := rfl
theorem ixIsName : fn[4]? = some dIsName := rfl
theorem ixIsPerson : fn[5]? = some dIsPerson := rfl
theorem ixAreDifferent : fn[6]? = some dAreDifferent := rfl
theorem ixIsPair : fn[7]? = some dIsPair := rfl
theorem ixCheckPeople : fn[8]? = some dCheckPeople := rfl
theorem ixCheckPairs : fn[9]? = some dCheckPairs := rfl
theorem ixCheckName : fn[10]? = some dCheckName := rfl
theorem ixPartyInit : fn[11]? = some dPartyInit := rfl
theorem ixPartyPeople : fn[12]? = some dPartyPeople := rfl
theorem ixPartyMay : fn[13]? = some dPartyMay := rfl
theorem ixPartyContains : fn[14]? = some dPartyContains := rfl
theorem ixIsLot : fn[15]? = some dIsLot := rfl
theorem ixIsLeak : fn[16]? = some dIsLeak := rfl
theorem ixLets : fn[17]? = some dLets := rfl
theorem ixAllLet : fn[18]? = some dAllLet := rfl
theorem ixBookInit : fn[19]? = some dBookInit := rfl
theorem ixBookParty : fn[20]? = some dBookParty := rfl
theorem ixBookRows : fn[21]? = some dBookRows := rfl
theorem ixBookFree : fn[22]? = some dBookFree := rfl
theorem ixDrawing : fn[23]? = some dDrawing := rfl
theorem ixLack : fn[24]? = some dLack := rfl
theorem ixIsInteger : fn[25]? = some dIsInteger := rfl
theorem ixIsPrice : fn[26]? = some dIsPrice := rfl
theorem ixCheckPrices : fn[27]? = some dCheckPrices := rfl
theorem ixTotal : fn[28]? = some dTotal := rfl
theorem ixSearchInit : fn[29]? = some dSearchInit := rfl
theorem ixSearchGrow : fn[30]? = some dSearchGrow := rfl
theorem ixSearchShift : fn[31]? = some dSearchShift := rfl
theorem ixSearchTurnOver : fn[32]? = some dSearchTurnOver := rfl
theorem ixSolved : fn[33]? = some dSolved := rfl
theorem ixSolvedBook : fn[34]? = some dSolvedBook := rfl
theorem ixCheapest : fn[35]? = some dCheapest := rfl
theorem ixRowsUpTo : fn[36]? = some dRowsUpTo := rfl
theorem ixGreatest : fn[37]? = some dGreatest := rfl
theorem ixGreatestLack : fn[38]? = some dGreatestLack := rfl
theorem ixLawCell : fn[39]? = some dLawCell := rfl
theorem ixLawDraws : fn[40]? = some dLawDraws := rfl
theorem ixLawPeople : fn[41]? = some dLawPeople := rfl
theorem ixLawBarred : fn[42]? = some dLawBarred := rfl
theorem ixLawHidden : fn[43]? = some dLawHidden := rfl
theorem ixLawLot : fn[44]? = some dLawLot := rfl
theorem ixLawLeak : fn[45]? = some dLawLeak := rfl
theorem ixLawLets : fn[46]? = some dLawLets := rfl
theorem ixLawKept : fn[47]? = some dLawKept := rfl
theorem ixLawMended : fn[48]? = some dLawMended := rfl
theorem ixLawWorld : fn[49]? = some dLawWorld := rfl
theorem ixLawRows : fn[50]? = some dLawRows := rfl
theorem ixLawIsDrawing : fn[51]? = some dLawIsDrawing := rfl
theorem ixLawEqual : fn[52]? = some dLawEqual := rfl
theorem ixLawPrice : fn[53]? = some dLawPrice := rfl
theorem ixLawPrices : fn[54]? = some dLawPrices := rfl
theorem ixLawRefused : fn[55]? = some dLawRefused := rfl
theorem ixLawIsLack : fn[56]? = some dLawIsLack := rfl
theorem ixLawGreatestOf : fn[57]? = some dLawGreatestOf := rfl
theorem ixLaw : fn[58]? = some dLaw := rfl
end GF

/- GComp -/
set_option Elab.async false
set_option linter.all false
set_option maxRecDepth 100000
set_option maxHeartbeats 4000000
/-! Dict comprehensions of one and of two clauses, any keys that a dict of the layer takes. -/
namespace GF
open PySem PySem.Spec PyProof.Rows L2
section
variable {prog : Program} {w : World} {A : Around} {R : Result → Shared → Prop} {s : Shared} {e tg i0 : Expr} {ifs : List Expr} {it acc : Value} {env : Env} {lv : Nat}
abbrev FF {α : Type} : α → Shared → Prop := fun _ _ => False
/-- one turn up to its tests; Lf: what the rest of it must do -/
def TurnOf (prog : Program) (w : World) (A : Around) (tg : Expr) (ifs : List Expr) (it : Value) (env : Env) (Stop : Shared → Prop) (Lf : Shared → (Shared → Prop) → Prop) (Nx : Shared → Prop) (s : Shared) : Prop :=
  wpAny (model prog w) A (pyNext it) (fun r s1 => match r with
    | none => Stop s1
    | some v => wpAny (model prog w) A (letOwnedTupleGo tg it v) (fun _ s2 => wpAny (model prog w) A (assign tg env v) (fun _ s3 =>
        wpAny (model prog w) A (forIn ifs true fun c r => if r = true then do let ok ← isTrue c env (eval c env); pure (ForInStep.yield ok) else pure (ForInStep.yield r)) (fun ok s4 =>
          if ok = true then Lf s4 Nx else Nx s4) FF s3) FF s2) FF s1) FF s
/-- a clause's loop, by its turn -/
def LoopOk (prog : Program) (w : World) (A : Around) (e tg : Expr) (ifs : List Expr) (lv : Nat) (acc : Value) (env : Env) (Lf : Shared → (Shared → Prop) → Prop) : Prop :=
  ∀ (it : Value) (R : Result → Shared → Prop) (I : Nat → Shared → Prop), (∀ n s, I n s → TurnOf prog w A tg ifs it env (R (.ok .next)) Lf (fun s' => ∃ m, m < n ∧ I m s') s) → ∀ n s, I n s → codeAny (model prog w) A (.compLoop e lv it acc env) R s
theorem noF {α : Type} {M : Model} {t : Sem α} {Q : α → Shared → Prop} {E : Value → Shared → Prop} {s : Shared} (h : wpAny M A t Q FF s) : wpAny M A t Q E s := wpAny_mono h (fun _ _ x => x) fun _ _ x => x.elim
variable {kx vx t1 i1 : Expr} {ifs1 : List Expr} {scope : Scope} {pos : Pos} {D : Addr}
/-- the rest of a turn: the key, the value, the store -/
def LfSet (prog : Program) (w : World) (A : Around) (kx vx : Expr) (D : Addr) (env : Env) : Shared → (Shared → Prop) → Prop := fun s Nx =>
  wpAny (model prog w) A (eval kx env) (fun kv s1 => wpAny (model prog w) A (eval vx env) (fun vv s2 => wpAny (model prog w) A (dictSet D kv vv) (fun _ s3 => Nx s3) FF s2) FF s1) FF s
/-- the rest of a turn: a second clause's loop -/
def LfIn (prog : Program) (w : World) (A : Around) (e i1 : Expr) (acc : Value) (env : Env) : Shared → (Shared → Prop) → Prop := fun s Nx =>
  wpAny (model prog w) A (eval i1 env) (fun x s1 => wpAny (model prog w) A (pyIter x) (fun it1 s2 => codeAny (model prog w) A (.compStart e 1 it1 acc env) (fun r s' => match r with
    | .ok _ => Nx s'
    | .error _ => False) s2) FF s1) FF s
theorem turn2_out (kx vx t0 i0 t1 i1 : Expr) (ifs0 ifs1 : List Expr) (scope : Scope) (pos : Pos) (it acc : Value) (env : Env) :
    compTurn (.DictComp kx vx [⟨t0, i0, ifs0, 0⟩, ⟨t1, i1, ifs1, 0⟩] scope pos) 0 it acc env = (do
      standAt i0.pos
      match ← pyNext it with
      | none => pure (.done .next)
      | some u =>
        letOwnedTupleGo t0 it u
        assign t0 env u
        let mut go := true
        for t in ifs0 do
          if go then go ← isTrue t env (eval t env)
        if go then
          let y ← eval i1 env
          standAt i1.pos
          let y ← foldedSetIterable i1 env y
          let _ ← runOwn (.compStart (.DictComp kx vx [⟨t0, i0, ifs0, 0⟩, ⟨t1, i1, ifs1, 0⟩] scope pos) 1 (← holding [y] (pyIter y)) acc env) env
        again (.compLoop (.DictComp kx vx [⟨t0, i0, ifs0, 0⟩, ⟨t1, i1, ifs1, 0⟩] scope pos) 0 it acc env)) := by rfl
theorem turn2_in (kx vx t0 i0 t1 i1 : Expr) (ifs0 ifs1 : List Expr) (scope : Scope) (pos : Pos) (it : Value) (D : Addr) (env : Env) :
    compTurn (.DictComp kx vx [⟨t0, i0, ifs0, 0⟩, ⟨t1, i1, ifs1, 0⟩] scope pos) 1 it (.ref D) env = (do
      standAt i1.pos
      match ← pyNext it with
      | none => pure (.done .next)
      | some u =>
        letOwnedTupleGo t1 it u
        assign t1 env u
        let mut go := true
        for t in ifs1 do
          if go then go ← isTrue t env (eval t env)
        if go then
          (do
            let ku ← eval kx env
            let vu ← holding [ku] (eval vx env)
            standAt { kx.pos with endLine := vx.pos.endLine, endCol := vx.pos.endCol }
            holding [ku, vu] (dictSet D ku vu))
        again (.compLoop (.DictComp kx vx [⟨t0, i0, ifs0, 0⟩, ⟨t1, i1, ifs1, 0⟩] scope pos) 1 it (.ref D) env)) := by rfl
theorem loop1 : LoopOk prog w A (.DictComp kx vx [⟨tg, i0, ifs, 0⟩] scope pos) tg ifs 0 (.ref D) env (LfSet prog w A kx vx D env) := by
  intro it R I turn n s h
  refine codeAny_loop rfl I (fun n s hI => ?_) n h
  show wpAny _ A ((compTurn (.DictComp kx vx [⟨tg, i0, ifs, 0⟩] scope pos) 0 it (.ref D) env).onRaise (fun x => do noteFrame x env; theTreesLotGoes x)) _ _ s
  refine wpAny_noted ?_
  rw [compTurn_dict]
  refine wpAny_bind (wpAny_standAt (wpAny_bind (wpAny_mono (turn n s hI) (fun r s1 h1 => ?_) fun _ _ z => z.elim)))
  cases r with
  | none => exact wpAny_pure h1
  | some v =>
    refine wpAny_bind (wpAny_mono h1 (fun _ s2 h2 => ?_) fun _ _ z => z.elim)
    refine wpAny_bind (wpAny_mono h2 (fun _ s3 h3 => wpAny_bind (wpAny_mono h3 (fun ok s4 h4 => ?_) fun _ _ z => z.elim)) fun _ _ z => z.elim)
    cases ok with
    | false => exact wpAny_pure ⟨rfl, h4⟩
    | true =>
      refine wpAny_bind (wpAny_bind (wpAny_mono h4 (fun kv s5 h5 => ?_) fun _ _ z => z.elim))
      refine wpAny_bind (wpAny_holding (wpAny_mono h5 (fun vv s6 h6 => ?_) fun _ _ z => z.elim))
      exact wpAny_bind (wpAny_standAt (wpAny_holding (wpAny_mono h6 (fun _ s7 h7 => wpAny_pure ⟨rfl, h7⟩) fun _ _ z => z.elim)))
theorem loop2_in {t0 : Expr} {ifs0 : List Expr} : LoopOk prog w A (.DictComp kx vx [⟨t0, i0, ifs0, 0⟩, ⟨t1, i1, ifs1, 0⟩] scope pos) t1 ifs1 1 (.ref D) env (LfSet prog w A kx vx D env) := by
  intro it R I turn n s h
  refine codeAny_loop rfl I (fun n s hI => ?_) n h
  show wpAny _ A ((compTurn (.DictComp kx vx [⟨t0, i0, ifs0, 0⟩, ⟨t1, i1, ifs1, 0⟩] scope pos) 1 it (.ref D) env).onRaise (fun x => do noteFrame x env; theTreesLotGoes x)) _ _ s
  refine wpAny_noted ?_
  rw [turn2_in]
  refine wpAny_bind (wpAny_standAt (wpAny_bind (wpAny_mono (turn n s hI) (fun r s1 h1 => ?_) fun _ _ z => z.elim)))
  cases r with
  | none => exact wpAny_pure h1
  | some v =>
    refine wpAny_bind (wpAny_mono h1 (fun _ s2 h2 => ?_) fun _ _ z => z.elim)
    refine wpAny_bind (wpAny_mono h2 (fun _ s3 h3 => wpAny_bind (wpAny_mono h3 (fun ok s4 h4 => ?_) fun _ _ z => z.elim)) fun _ _ z => z.elim)
    cases ok with
    | false => exact wpAny_pure ⟨rfl, h4⟩
    | true =>
      refine wpAny_bind (wpAny_bind (wpAny_mono h4 (fun kv s5 h5 => ?_) fun _ _ z => z.elim))
      refine wpAny_bind (wpAny_holding (wpAny_mono h5 (fun vv s6 h6 => ?_) fun _ _ z => z.elim))
      exact wpAny_bind (wpAny_standAt (wpAny_holding (wpAny_mono h6 (fun _ s7 h7 => wpAny_pure ⟨rfl, h7⟩) fun _ _ z => z.elim)))
theorem loop2_out {t0 : Expr} {ifs0 : List Expr} (hs : ∀ x, foldedSetIterable i1 env x = pure x) :
    LoopOk prog w A (.DictComp kx vx [⟨t0, i0, ifs0, 0⟩, ⟨t1, i1, ifs1, 0⟩] scope pos) t0 ifs0 0 acc env (LfIn prog w A (.DictComp kx vx [⟨t0, i0, ifs0, 0⟩, ⟨t1, i1, ifs1, 0⟩] scope pos) i1 acc env) := by
  intro it R I turn n s h
  refine codeAny_loop rfl I (fun n s hI => ?_) n h
  show wpAny _ A ((compTurn (.DictComp kx vx [⟨t0, i0, ifs0, 0⟩, ⟨t1, i1, ifs1, 0⟩] scope pos) 0 it acc env).onRaise (fun x => do noteFrame x env; theTreesLotGoes x)) _ _ s
  refine wpAny_noted ?_
  rw [turn2_out]
  refine wpAny_bind (wpAny_standAt (wpAny_bind (wpAny_mono (turn n s hI) (fun r s1 h1 => ?_) fun _ _ z => z.elim)))
  cases r with
  | none => exact wpAny_pure h1
  | some v =>
    refine wpAny_bind (wpAny_mono h1 (fun _ s2 h2 => ?_) fun _ _ z => z.elim)
    refine wpAny_bind (wpAny_mono h2 (fun _ s3 h3 => wpAny_bind (wpAny_mono h3 (fun ok s4 h4 => ?_) fun _ _ z => z.elim)) fun _ _ z => z.elim)
    cases ok with
    | false => exact wpAny_pure ⟨rfl, h4⟩
    | true =>
      refine wpAny_bind (wpAny_mono h4 (fun x s5 h5 => ?_) fun _ _ z => z.elim)
      refine wpAny_bind (wpAny_standAt (wpAny_bind (wpAny_of_eq (hs x) (wpAny_bind (wpAny_holding (wpAny_mono h5 (fun it1 s6 h6 => ?_) fun _ _ z => z.elim))))))
      refine wpAny_bind (wpAny_runOwn ?_)
      rw [Around.mark_none]
      refine codeAny_mono h6 fun r s' hr => ?_
      cases r with
      | ok f =>
        first
          | exact wpAny_pure ⟨rfl, hr⟩
          | exact wpAny_bind (wpAny_pure (wpAny_pure ⟨rfl, hr⟩))
      | error x => exact hr.elim
theorem start2 {t0 : Expr} {ifs0 : List Expr} (h0 : codeAny (model prog w) A (.compLoop (.DictComp kx vx [⟨t0, i0, ifs0, 0⟩, ⟨t1, i1, ifs1, 0⟩] scope pos) 1 it acc env) R s)
    (h : wpAny (model prog w) A (pyIter it) (fun it' s' => codeAny (model prog w) A (.compLoop (.DictComp kx vx [⟨t0, i0, ifs0, 0⟩, ⟨t1, i1, ifs1, 0⟩] scope pos) 1 it' acc env) R s') FF s) :
    codeAny (model prog w) A (.compStart (.DictComp kx vx [⟨t0, i0, ifs0, 0⟩, ⟨t1, i1, ifs1, 0⟩] scope pos) 1 it acc env) R s := by
  refine codeAny_of_tree ?_
  show wpAny _ _ ((compStart (.DictComp kx vx [⟨t0, i0, ifs0, 0⟩, ⟨t1, i1, ifs1, 0⟩] scope pos) 1 it acc env).onRaise (fun x => do noteFrame x env; standAt theWindowsPlace)) _ _ s
  refine wpAny_notedAt ?_
  unfold compStart
  show wpAny _ _ (ask >>= _) _ _ s
  refine wpAny_bind (wpAny_askSetting (wpAny_ite ?_))
  split
  · first
      | exact wpAny_bind (wpAny_pure (wpAny_pure (And.intro rfl h0)))
      | exact wpAny_pure (And.intro rfl h0)
  · refine wpAny_bind (wpAny_rule ?_)
    show wpAny _ _ (standAt i1.pos >>= _) _ _ s
    exact wpAny_bind (wpAny_standAt (wpAny_bind (wpAny_mono h (fun it' s' h' => wpAny_pure (And.intro rfl h')) fun _ _ z => z.elim)))
end

/-! ### over the layer -/
theorem wipe_get {σ : L2.St} {vs : List Nat} {i : Nat} : (wipe σ vs)[i]? = if i ∈ vs then (σ[i]?).map (fun _ => none) else σ[i]? := by
  induction vs with
  | nil => simp [wipe]
  | cons v vs ih =>
    unfold wipe
    rw [List.getElem?_set]
    by_cases c : v = i
    · subst c
      rw [if_pos rfl]
      have m : v ∈ v :: vs := List.mem_cons_self
      rw [if_pos m]
      by_cases d : v < (wipe σ vs).length
      · rw [if_pos d]
        rw [wipe_length] at d
        rw [List.getElem?_eq_getElem d]
        rfl
      · rw [if_neg d]
        rw [wipe_length] at d
        rw [List.getElem?_eq_none (Nat.not_lt.mp d)]
        rfl
    · rw [if_neg c, ih]
      have e : (i ∈ v :: vs) ↔ i ∈ vs := by
        simp
        intro z
        exact absurd z.symm c
      by_cases d : i ∈ vs
      · rw [if_pos d, if_pos (e.mpr d)]
      · rw [if_neg d, if_neg fun z => d (e.mp z)]
theorem wipe_sub {σ : L2.St} {vs ws : List Nat} (h : ∀ i, i ∈ ws → i ∈ vs) : wipe (wipe σ ws) vs = wipe σ vs := by
  apply List.ext_getElem?
  intro i
  rw [wipe_get, wipe_get, wipe_get]
  by_cases c : i ∈ vs
  · rw [if_pos c, if_pos c]
    by_cases d : i ∈ ws
    · rw [if_pos d]
      cases σ[i]? <;> rfl
    · rw [if_neg d]
  · rw [if_neg c, if_neg c, if_neg fun d => c (h i d)]
section
variable {X : Cx}
/-- d[k] = v by a comprehension, whatever the key -/
theorem d_dictSetG {pins : List (Addr × Obj)} {σ : L2.St} {H H' : Hp} {s : Shared} {E : Value → Shared → Prop} {a : Addr} {y v : V} {u r : Value} {Q : Unit → Shared → Prop} (hu : X.A.units + 1 < cLine) (I : Inv X pins σ H s) (g : DPut H a y v H') (ry : RelV y u) (rv : RelV v r)
    (h : ∀ s', Inv X pins σ H' s' → Q () s') : wpAny (model X.prog X.w) X.A (dictSet a u r) Q E s := by
  rcases g with ⟨kvs, k, e, ey, l, eH⟩ | ⟨kvs, k, b, e, ey, eb, l, eH⟩
  · subst ey eH
    exact d_dictSet I e l ry rv h
  · subst ey eH
    cases (show u = Value.ref b from ry)
    obtain ⟨z, hd, xs, rel, dd⟩ := dt_of I.hok e
    have hz : xs.length ≤ sizeLine := by rw [← Paired.length rel]; exact z
    have hl : (putK kvs k v).length ≤ sizeLine := by have := length_putK kvs k v; omega
    refine wpAny_dictSet_heap (hsz := hz) (show X.A.units < cLine by omega) (key_of I.hok eb) dd fun h' dd' hs => h _ ?_
    obtain ⟨q, es, ep, hq, h2, h3, h4, _, h5⟩ := dd'
    refine d_write I (by rw [e]; exact True.intro) hs ⟨q, hq⟩ ⟨hl, hd, _, (rel.put k eb rv).keeps fun c ys ec => ?_, q, es, ep, hq, h2, h3, h4, h5⟩
    rw [upd_ne (ne_of ec e (fun z => nomatch z))]
    exact ec
/-- the rest of a turn over the layer -/
abbrev TL := Addr → L2.St → Hp → (Hp → Prop) → Prop
def PL (X : Cx) (vs : List Nat) (Lf : Addr → Shared → (Shared → Prop) → Prop) (tl : TL) : Prop :=
  ∀ (D : Addr) (pins : List (Addr × Obj)) (s : Shared) (σ : L2.St) (H : Hp) (Nx : Hp → Prop), Inv X pins σ H s → tl D σ H Nx → Lf D s fun s' => ∃ σ' H', Inv X pins σ' H' s' ∧ wipe σ' vs = wipe σ vs ∧ Nx H'
/-- the turns of an iterator J, the dict at D; from W 0 to Nx -/
def Turns (J : It) (g : TG) (tt : TT) (tl : TL) (σ : L2.St) (vs : List Nat) (D : Addr) (H1 : Hp) (End : Hp → Prop) : Prop :=
  ∃ W : Nat → Nat → Hp → Prop, (∃ m, W 0 m H1) ∧ ∀ i m H, W i m H → (J.stop i H ∧ End H) ∨ (J.go i H ∧ ∃ Nx : Hp → Prop, (∀ H', Nx H' → ∃ m', m' < m ∧ W (i + 1) m' H') ∧
    ∀ x H', J.yld i H x H' → g x (wipe σ vs) H' fun σ2 H2 => wipe σ2 vs = wipe σ vs ∧ tt σ2 H2 fun b H3 => if b = true then tl D σ2 H3 Nx else Nx H3)
/-- a loop over the layer, from its turns -/
theorem run_loop {pins : List (Addr × Obj)} {σ : L2.St} {H : Hp} {s : Shared} {e tg : Expr} {ifs : List Expr} {lv : Nat} {Lf : Addr → Shared → (Shared → Prop) → Prop} {tl : TL} {g : TG} {tt : TT} {vs : List Nat} {D : Addr} {J : It} {fp : List Addr} {it : Addr} {tn : Nat → Heap → Prop}
    {End : Hp → Prop} {R : Result → Shared → Prop} (hc : X.calm = true) (lo : LoopOk X.prog X.w X.A e tg ifs lv (.ref D) X.env (Lf D)) (T : Turn X.prog X.w X.K tg J fp it tn) (I : Inv X pins σ H s) (st : tn 0 s.heap) (hf : ∀ b ∈ fp, FpOk X pins H b)
    (hx : ∀ e s, ¬ X.xe e s) (mono : ∀ D s (P Q : Shared → Prop), (∀ s, P s → Q s) → Lf D s P → Lf D s Q) (pg : PG X tg g) (pt : PTs X ifs tt) (pl : PL X vs Lf tl) (h : Turns J g tt tl σ vs D H End)
    (fin : ∀ s' σ' H', Inv X pins σ' H' s' → wipe σ' vs = wipe σ vs → (∀ b ∈ fp, H' b = none) → End H' → R (.ok .next) s') : codeAny (model X.prog X.w) X.A (.compLoop e lv (.ref it) (.ref D) X.env) R s := by
  obtain ⟨W, ⟨m0, w0⟩, turn⟩ := h
  have stat : ∀ {H' : Hp}, (∀ b ∈ fp, H' b = none) → ∀ b ∈ fp, FpOk X pins H' b := fun hn b hb => ⟨hn b hb, (hf b hb).2⟩
  have toF : ∀ {α : Type} {t : Sem α} {Q Q' : α → Shared → Prop} {s : Shared}, wpAny (model X.prog X.w) X.A t Q X.xe s → (∀ a s, Q a s → Q' a s) → wpAny (model X.prog X.w) X.A t Q' FF s := fun h k => wpAny_mono h k fun e s z => (hx e s z).elim
  refine lo (.ref it) R (fun n s' => ∃ i σ' H', Inv X pins (wipe σ' vs) H' s' ∧ wipe σ' vs = wipe σ vs ∧ tn i s'.heap ∧ (∀ b ∈ fp, H' b = none) ∧ W i n H') ?_ m0 s ⟨0, σ, H, I.weak (wipe_length _ _) (fun j v e => (wipe_some e).1), rfl, st, fun b hb => (hf b hb).1, w0⟩
  rintro n s1 ⟨i, σ1, H1, I1, e1, st1, n1, w1⟩
  rw [e1] at I1
  rcases turn i n H1 w1 with ⟨stop, q⟩ | ⟨go, Nx, hN, step⟩
  · refine toF (T.done X rfl rfl rfl hc i pins s1 _ H1 X.xe I1 (stat n1) st1 stop) fun r s2 ⟨hr, I2⟩ => ?_
    subst hr
    exact fin s2 _ H1 I2 (wipe_sub fun _ z => z) n1 q
  · refine toF (T.item X rfl rfl rfl hc i pins s1 _ H1 X.xe I1 (stat n1) st1 go) fun r s2 ⟨u, hr, h2⟩ => ?_
    subst hr
    refine toF h2 fun _ s3 ⟨x, H3, I3, r3, y3, st3, n3⟩ => ?_
    have I3' := I3.pinned (stat n3) (T.obj _ _ st3)
    refine toF (pg.run _ s3 _ H3 x u _ I3' r3 (step x H3 y3)) fun _ s4 ⟨σ4, H4, I4, e4, q4⟩ => ?_
    refine toF (pt.run _ s4 σ4 H4 _ I4 q4) fun b s5 ⟨H5, I5, q5⟩ => ?_
    have ende : ∀ {s' : Shared} {σ' : L2.St} {H' : Hp}, Inv X (pins ++ pinsAt fp s3.heap) σ' H' s' → wipe σ' vs = wipe σ vs → Nx H' → ∃ m, m < n ∧ ∃ i σ' H', Inv X pins (wipe σ' vs) H' s' ∧ wipe σ' vs = wipe σ vs ∧ tn i s'.heap ∧ (∀ b ∈ fp, H' b = none) ∧ W i m H' := fun {s' σ' H'} I' e' nx => by
      obtain ⟨m', hm, w'⟩ := hN H' nx
      have pin' : ∀ b ∈ fp, ∀ o, s3.heap.get? b = some o → s'.heap.get? b = some o ∧ H' b = none := fun b hb o e =>
        let z := I'.pin (b, o) (List.mem_append_right _ (List.mem_append_right _ (mem_pinsAt hb e)))
        ⟨z.1, z.2.1⟩
      refine ⟨m', hm, i + 1, σ', H', I'.unpinned.weak (wipe_length _ _) (fun j v e => (wipe_some e).1), e', T.keep _ _ _ st3 fun b hb o e => (pin' b hb o e).1, fun b hb => ?_, w'⟩
      obtain ⟨o, e, _⟩ := T.obj _ _ st3 b hb
      exact (pin' b hb o e).2
    cases b with
    | false =>
      simp only [Bool.false_eq_true, if_false] at q5 ⊢
      exact ende I5 e4 q5
    | true =>
      simp only [if_true] at q5 ⊢
      exact mono D s5 _ _ (fun s' ⟨σ', H', I', e', nx⟩ => ende I' (e'.trans e4) nx) (pl D _ s5 σ4 H5 Nx I5 q5)
def tlSet (tk tv : TE) : TL := fun D σ H Nx => tk σ H fun y H1 => tv σ H1 fun z H2 => ∃ H3, DPut H2 D y z H3 ∧ Nx H3
theorem pl_set {kx vx : Expr} {tk tv : TE} {vs : List Nat} (hu : X.A.units + 1 < cLine) (hx : ∀ e s, ¬ X.xe e s) (hk : PE X kx tk) (hv : PE X vx tv) : PL X vs (fun D => LfSet X.prog X.w X.A kx vx D X.env) (tlSet tk tv) := by
  intro D pins s σ H Nx I h
  refine wpAny_mono (hk.run pins s σ H _ I h) (fun u s1 ⟨y, H1, I1, r1, q1⟩ => ?_) fun e s z => (hx e s z).elim
  refine wpAny_mono (hv.run pins s1 σ H1 _ I1 q1) (fun v s2 ⟨z, H2, I2, r2, H3, p, nx⟩ => ?_) fun e s z => (hx e s z).elim
  exact d_dictSetG hu I2 p r1 r2 fun s3 I3 => ⟨σ, H3, I3, rfl, nx⟩
def tlIn (wi : TI) (g : TG) (tt : TT) (tl : TL) (vs1 : List Nat) : TL := fun D σ H Nx => wi σ H fun J H1 => Turns J g tt tl σ vs1 D H1 Nx
theorem pl_in {kx vx t0 i0 t1 i1 : Expr} {ifs0 ifs1 : List Expr} {scope : Scope} {pos : Pos} {wi : TI} {g : TG} {tt : TT} {tk tv : TE} {vs vs1 : List Nat} (hc : X.calm = true) (hu : X.A.units + 1 < cLine) (hx : ∀ e s, ¬ X.xe e s) (hv : ∀ i, i ∈ vs1 → i ∈ vs) (hi : PI X t1 i1 wi) (hg : PG X t1 g) (ht : PTs X ifs1 tt) (hk : PE X kx tk) (he : PE X vx tv) :
    PL X vs (fun D => LfIn X.prog X.w X.A (.DictComp kx vx [⟨t0, i0, ifs0, 0⟩, ⟨t1, i1, ifs1, 0⟩] scope pos) i1 (.ref D) X.env) (tlIn wi g tt (tlSet tk tv) vs1) := by
  intro D pins s σ H Nx I h
  refine wpAny_mono (hi.run pins s σ H _ I h) (fun x s1 h1 => wpAny_mono h1 (fun itv s2 h2 => ?_) fun e s z => (hx e s z).elim) fun e s z => (hx e s z).elim
  obtain ⟨it, fp, tn, J, H2, e, I2, T, st2, f2, q⟩ := h2
  subst e
  have lp : codeAny (model X.prog X.w) X.A (.compLoop (.DictComp kx vx [⟨t0, i0, ifs0, 0⟩, ⟨t1, i1, ifs1, 0⟩] scope pos) 1 (.ref it) (.ref D) X.env) (fun r s' => match r with
      | .ok _ => ∃ σ' H', Inv X pins σ' H' s' ∧ wipe σ' vs = wipe σ vs ∧ Nx H'
      | .error _ => False) s2 :=
    run_loop (Lf := fun D => LfSet X.prog X.w X.A kx vx D X.env) hc loop2_in T I2 st2 f2 hx (fun D s P Q k z => wpAny_mono z (fun _ _ z => wpAny_mono z (fun _ _ z => wpAny_mono z (fun _ _ z => k _ z) fun _ _ z => z) fun _ _ z => z) fun _ _ z => z) hg ht (pl_set hu hx hk he) q
      fun s' σ' H' I' e' _ nx => ⟨σ', H', I', by rw [← wipe_sub (σ := σ') hv, e', wipe_sub hv], nx⟩
  exact start2 lp (T.self X.A 0 _ _ _ st2 lp)
/-- what a comprehension's block asks of the wish about exceptions -/
theorem blk_no {s : Shared} {H : Hp} {scope : Scope} {ce : Env} {fp : List Addr} : ∀ e t, ¬ (X.blk s H scope ce fp).xe e t := fun _ _ z => z

/-- the new dict at D: empty of either kind -/
def tDg (o : HO) (wi : TI) (g : TG) (tt : TT) (tl : TL) (vs : List Nat) : TE := fun σ H Q => wi σ H fun J H1 => ∀ D, H1 D = none → Turns J g tt tl σ vs D (upd H1 D o) fun H' => Q (.ref D) H'
theorem dg_core {pins : List (Addr × Obj)} {s : Shared} {σ : L2.St} {H : Hp} {Q : VK} {kx vx tg iter : Expr} {ifs : List Expr} {more : List Comprehension} {scope : Scope} {own : List (Str × Nat)} {pos pos' : Pos} {o : HO} {wi : TI} {g : TG} {tt : TT} {tl : TL} {use : Option (Value → Sem Unit)} {Qf : Value → Shared → Prop}
    {Lf : Env → Addr → Shared → (Shared → Prop) → Prop} (ho : o = .dK [] ∨ o = .dT []) (hc : X.calm = true) (hN : X.N.Nodup) (I : Inv X pins σ H s) (hi : PI X tg iter wi) (ok : BlkOk X.N X.env.scope scope own)
    (lo : ∀ (ce : Env) (D : Addr), (∀ x, foldedSetIterable iter ce x = pure x) → LoopOk X.prog X.w X.A (.DictComp kx vx (⟨tg, iter, ifs, 0⟩ :: more) scope pos) tg ifs 0 (.ref D) ce (Lf ce D))
    (mono : ∀ ce D s (P Q : Shared → Prop), (∀ s, P s → Q s) → Lf ce D s P → Lf ce D s Q)
    (hg : ∀ (s : Shared) (H : Hp) (C : Addr) (cl : List (Str × Addr)) (fp : List Addr), PG (X.blk s H scope (compEnvC scope cl C X.env) fp) tg g) (ht : ∀ (s : Shared) (H : Hp) (C : Addr) (cl : List (Str × Addr)) (fp : List Addr), PTs (X.blk s H scope (compEnvC scope cl C X.env) fp) ifs tt)
    (hl : ∀ (s : Shared) (H : Hp) (C : Addr) (cl : List (Str × Addr)) (fp : List Addr), PL (X.blk s H scope (compEnvC scope cl C X.env) fp) (own.map (·.2)) (Lf (compEnvC scope cl C X.env)) tl) (hs : ∀ env x, foldedSetIterable iter env x = pure x)
    (h : tDg o wi g tt tl (own.map (·.2)) σ H Q)
    (hRR : ∀ D C s' m H', Inv X pins σ H' s' → Q (.ref D) H' → s'.heap.Ns C m → FpOk X pins H' C → compPost (model X.prog X.w) X.A X.xe use Qf (.ref D) C (.ok .next) s') :
    wpAny (model X.prog X.w) X.A (comprehension (.DictComp kx vx (⟨tg, iter, ifs, 0⟩ :: more) scope pos) scope X.env pos' newDict false (eval iter X.env) use) Qf X.xe s := by
  have hfree : ∀ y ∈ scope.names, y.2 = .free → ∃ c, X.env.cells.lookup y.1 = some c := fun y hy e => by
    rcases ok.free y hy e with k | k
    · exact I.ok.has _ (.inl k)
    · exact I.ok.has _ (.inr k)
  refine wpAny_comprehension_free (use := use) rfl (hs _) (closure_ok hfree) ok.kind (fun y hy e => by rw [ok.uniq y hy, e]) (thn (hi.run pins s σ H _ I h) fun xv s1 hx => thn hx fun itv s2 h2 => ?_)
  obtain ⟨it, fp, tn, J, H2, e, I2, T, st2, f2, q⟩ := h2
  subst e
  refine wpAny_newObj_type (newEnv_comp ?_)
  generalize hD : s2.heap.objs.size = D
  have hDn : H2 D = none := I2.hok.fresh (Nat.le_of_eq hD)
  have tq := q D hDn
  generalize hs3 : ({ s2 with heap := s2.heap.push { cls := .type "dict", data := .dict #[] } } : Shared) = s3
  have I3 : Inv X pins σ (upd H2 D o) s3 := by
    rw [← hs3]
    refine I2.laid (t' := s2.toks) (fun b o e => Heap.get?_push_of_some _ e) (Nat.le_of_eq hD) ?_
    rw [← hD]
    rcases ho with rfl | rfl
    · exact dk_empty s2.heap I2.big
    · exact dt_empty s2.heap I2.big
  have h3 : s3.heap = s2.heap.push { cls := .type "dict", data := .dict #[] } := by rw [← hs3]
  have f3 : ∀ b ∈ fp, FpOk X pins (upd H2 D o) b ∧ b < s3.heap.objs.size := fun b hb => by
    obtain ⟨ob, eb, _⟩ := T.obj _ _ st2 b hb
    have hlt := Heap.lt_size eb
    refine ⟨⟨?_, (f2 b hb).2⟩, by rw [h3, Heap.size_push]; exact Nat.lt_succ_of_lt hlt⟩
    rw [upd_ne (by rw [← hD]; exact Nat.ne_of_lt hlt)]
    exact (f2 b hb).1
  have st3 : tn 0 s3.heap := T.keep _ _ _ st2 fun b _ o e => by rw [h3]; exact Heap.get?_push_of_some _ e
  have I4 := block_start I3 ok hN f3
  generalize hcl : cellsFrom (s3.heap.objs.size + 1) scope.names (cloFrom X.env.cells scope.names []) = cl at I4
  generalize hH3 : upd H2 D o = H3 at I3 I4 f3 tq
  have pg := hg s3 H3 s3.heap.objs.size cl fp
  have pt := ht s3 H3 s3.heap.objs.size cl fp
  have pl := hl s3 H3 s3.heap.objs.size cl fp
  generalize hs4 : ({ s3 with heap := pushCells (s3.heap.push { cls := .type "dict", data := .dict #[] }) scope.names } : Shared) = s4 at I4
  have st4 : tn 0 s4.heap := T.keep _ _ _ st3 fun b _ o e => by rw [← hs4]; exact pushCells_keeps _ _ _ _ (Heap.get?_push_of_some _ e)
  have f4 : ∀ b ∈ fp, FpOk (X.blk s3 H3 scope (compEnvC scope cl s3.heap.objs.size X.env) fp) [] H3 b := fun b hb =>
    ⟨(f3 b hb).1.1, (I4.ok.exf b hb).1, I4.ok.exfs b hb, .inl hb, fun x c e => (I4.ok.exf b hb).2 x c e, fun p hp => absurd (show p ∈ ([] : List (Addr × Obj)) ++ [] from hp) (by simp)⟩
  have lp : codeAny (model X.prog X.w) X.A (.compLoop (.DictComp kx vx (⟨tg, iter, ifs, 0⟩ :: more) scope pos) 0 (.ref it) (.ref D) (compEnvC scope cl s3.heap.objs.size X.env)) (compPost (model X.prog X.w) X.A X.xe use Qf (.ref D) s3.heap.objs.size) s4 := by
    refine run_loop (X := X.blk s3 H3 scope (compEnvC scope cl s3.heap.objs.size X.env) fp) (Lf := Lf (compEnvC scope cl s3.heap.objs.size X.env)) (tl := tl) hc (lo _ D (hs _)) T I4 st4 f4 blk_no (mono _) pg pt pl (vs := own.map (·.2)) (g := g) (tt := tt) (End := fun H' => Q (.ref D) H') ?_ ?_
    · obtain ⟨W, w0, turn⟩ := tq
      refine ⟨W, w0, fun i m H' w' => ?_⟩
      rw [wipe_sub fun _ z => z]
      exact turn i m H' w'
    · intro s6 σ6 H6 I6 e6 n6 qq
      have I7 : Inv X pins σ H6 s6 := I3.call' (ch := fp) I6.os I6.base I6.hok I6.bare fun b hb => ⟨(f3 b hb).1.2.2.2.1, (f3 b hb).1.2.1, (f3 b hb).1.2.2.2.2.1, (f3 b hb).1.2.2.2.2.2⟩
      have nC : H6 s3.heap.objs.size = none := I6.free
      obtain ⟨m, hn, _⟩ := I6.loc
      have hn : s6.heap.Ns s3.heap.objs.size m := hn
      exact hRR D s3.heap.objs.size s6 m H6 I7 qq hn (I3.fpOk (Nat.le_refl _) nC)
  show codeAny _ _ (.compStart (.DictComp kx vx (⟨tg, iter, ifs, 0⟩ :: more) scope pos) 0 (.ref it) (.ref D) (compEnvC scope cl s3.heap.objs.size X.env)) (compPost (model X.prog X.w) X.A X.xe use Qf (.ref D) s3.heap.objs.size) s4
  exact codeAny_compStart_dict lp (T.self X.A 0 _ _ _ st4 lp)
theorem mono_set {prog : Program} {w : World} {A : Around} {kx vx : Expr} {D : Addr} {ce : Env} {s : Shared} {P Q : Shared → Prop} (k : ∀ s, P s → Q s) (z : LfSet prog w A kx vx D ce s P) : LfSet prog w A kx vx D ce s Q :=
  wpAny_mono z (fun _ _ z => wpAny_mono z (fun _ _ z => wpAny_mono z (fun _ _ z => k _ z) fun _ _ z => z) fun _ _ z => z) fun _ _ z => z
theorem mono_in {prog : Program} {w : World} {A : Around} {e i1 : Expr} {acc : Value} {ce : Env} {s : Shared} {P Q : Shared → Prop} (k : ∀ s, P s → Q s) (z : LfIn prog w A e i1 acc ce s P) : LfIn prog w A e i1 acc ce s Q :=
  wpAny_mono z (fun _ _ z => wpAny_mono z (fun _ _ z => codeAny_mono z fun r _ z => by
    cases r with
    | ok f => exact k _ z
    | error e => exact z) fun _ _ z => z) fun _ _ z => z
/-- {k: v for tg in iter if ..} as a value; o: the empty dict of either kind -/
theorem pe_dg {kx vx tg iter : Expr} {ifs : List Expr} {scope : Scope} {own : List (Str × Nat)} {pos : Pos} {o : HO} {wi : TI} {g : TG} {tt : TT} {tk tv : TE} (hu : X.A.units + 1 < cLine) (hc : X.calm = true) (hN : X.N.Nodup) (hi : PI X tg iter wi) (ok : BlkOk X.N X.env.scope scope own)
    (hg : ∀ (s : Shared) (H : Hp) (C : Addr) (cl : List (Str × Addr)) (fp : List Addr), PG (X.blk s H scope (compEnvC scope cl C X.env) fp) tg g) (ht : ∀ (s : Shared) (H : Hp) (C : Addr) (cl : List (Str × Addr)) (fp : List Addr), PTs (X.blk s H scope (compEnvC scope cl C X.env) fp) ifs tt)
    (hk : ∀ (s : Shared) (H : Hp) (C : Addr) (cl : List (Str × Addr)) (fp : List Addr), PE (X.blk s H scope (compEnvC scope cl C X.env) fp) kx tk) (hv : ∀ (s : Shared) (H : Hp) (C : Addr) (cl : List (Str × Addr)) (fp : List Addr), PE (X.blk s H scope (compEnvC scope cl C X.env) fp) vx tv)
    (ho : o = .dK [] ∨ o = .dT [] := by first | exact .inl rfl | exact .inr rfl) (hs : ∀ env x, foldedSetIterable iter env x = pure x := by intro _ _; rfl) : PE X (.DictComp kx vx [⟨tg, iter, ifs, 0⟩] scope pos) (tDg o wi g tt (tlSet tk tv) (own.map (·.2))) := by
  refine ⟨fun pins s σ H Q I h => ?_⟩
  rw [arm_eval_DictComp]
  refine dg_core (Lf := fun ce D => LfSet X.prog X.w X.A kx vx D ce) ho hc hN I hi ok (fun ce D _ => loop1) (fun ce D s P Q k z => mono_set k z) hg ht (fun s H C cl fp => pl_set hu blk_no (hk s H C cl fp) (hv s H C cl fp)) hs h fun D C s' m H' I' q hn f => ⟨m, hn, fun h2 sb => ?_⟩
  obtain ⟨f0, f1, f2, f3, f4, f5⟩ := f
  exact ⟨.ref D, H', I'.turned (t' := s'.toks) (fun b o hb e => (sb.2 b hb).trans e) f0 f1 f3 f4 f5, rfl, q⟩
/-- {k: v for tg in iter if .. for tg1 in iter1 if ..} -/
theorem pe_dg2 {kx vx tg iter tg1 iter1 : Expr} {ifs ifs1 : List Expr} {scope : Scope} {own : List (Str × Nat)} {vs1 : List Nat} {pos : Pos} {o : HO} {wi wi1 : TI} {g g1 : TG} {tt tt1 : TT} {tk tv : TE} (hu : X.A.units + 1 < cLine) (hc : X.calm = true) (hN : X.N.Nodup) (hi : PI X tg iter wi) (ok : BlkOk X.N X.env.scope scope own) (hw : ∀ i, i ∈ vs1 → i ∈ own.map (·.2))
    (hg : ∀ (s : Shared) (H : Hp) (C : Addr) (cl : List (Str × Addr)) (fp : List Addr), PG (X.blk s H scope (compEnvC scope cl C X.env) fp) tg g) (ht : ∀ (s : Shared) (H : Hp) (C : Addr) (cl : List (Str × Addr)) (fp : List Addr), PTs (X.blk s H scope (compEnvC scope cl C X.env) fp) ifs tt)
    (hi1 : ∀ (s : Shared) (H : Hp) (C : Addr) (cl : List (Str × Addr)) (fp : List Addr), PI (X.blk s H scope (compEnvC scope cl C X.env) fp) tg1 iter1 wi1) (hg1 : ∀ (s : Shared) (H : Hp) (C : Addr) (cl : List (Str × Addr)) (fp : List Addr), PG (X.blk s H scope (compEnvC scope cl C X.env) fp) tg1 g1)
    (ht1 : ∀ (s : Shared) (H : Hp) (C : Addr) (cl : List (Str × Addr)) (fp : List Addr), PTs (X.blk s H scope (compEnvC scope cl C X.env) fp) ifs1 tt1)
    (hk : ∀ (s : Shared) (H : Hp) (C : Addr) (cl : List (Str × Addr)) (fp : List Addr), PE (X.blk s H scope (compEnvC scope cl C X.env) fp) kx tk) (hv : ∀ (s : Shared) (H : Hp) (C : Addr) (cl : List (Str × Addr)) (fp : List Addr), PE (X.blk s H scope (compEnvC scope cl C X.env) fp) vx tv)
    (ho : o = .dK [] ∨ o = .dT [] := by first | exact .inl rfl | exact .inr rfl) (hs : ∀ env x, foldedSetIterable iter env x = pure x := by intro _ _; rfl) (hs1 : ∀ env x, foldedSetIterable iter1 env x = pure x := by intro _ _; rfl) :
    PE X (.DictComp kx vx [⟨tg, iter, ifs, 0⟩, ⟨tg1, iter1, ifs1, 0⟩] scope pos) (tDg o wi g tt (tlIn wi1 g1 tt1 (tlSet tk tv) vs1) (own.map (·.2))) := by
  refine ⟨fun pins s σ H Q I h => ?_⟩
  rw [arm_eval_DictComp]
  refine dg_core (Lf := fun ce D => LfIn X.prog X.w X.A (.DictComp kx vx [⟨tg, iter, ifs, 0⟩, ⟨tg1, iter1, ifs1, 0⟩] scope pos) iter1 (.ref D) ce) ho hc hN I hi ok (fun ce D _ => loop2_out (hs1 ce)) (fun ce D s P Q k z => mono_in k z) hg ht
    (fun s H C cl fp => pl_in (X := X.blk s H scope (compEnvC scope cl C X.env) fp) hc hu blk_no hw (hi1 s H C cl fp) (hg1 s H C cl fp) (ht1 s H C cl fp) (hk s H C cl fp) (hv s H C cl fp)) hs h fun D C s' m H' I' q hn f => ⟨m, hn, fun h2 sb => ?_⟩
  obtain ⟨f0, f1, f2, f3, f4, f5⟩ := f
  exact ⟨.ref D, H', I'.turned (t' := s'.toks) (fun b o hb e => (sb.2 b hb).trans e) f0 f1 f3 f4 f5, rfl, q⟩
/-- name = {..} on one line, the name a local -/
theorem ps_setDg {i : Nat} {y : Str} {py : Pos} {kx vx tg iter : Expr} {ifs : List Expr} {scope : Scope} {own : List (Str × Nat)} {pos spos : Pos} {o : HO} {wi : TI} {g : TG} {tt : TT} {tk tv : TE} (hu : X.A.units + 1 < cLine) (hc : X.calm = true) (hN : X.N.Nodup) (hy : X.N[i]? = some y) (hyl : X.env.scope.names.lookup y = some .local)
    (hsw : swapsWith (.DictComp kx vx [⟨tg, iter, ifs, 0⟩] scope pos) (some (.Name y py)) spos.line X.env = pure true) (hi : PI X tg iter wi) (ok : BlkOk X.N X.env.scope scope own)
    (hg : ∀ (s : Shared) (H : Hp) (C : Addr) (cl : List (Str × Addr)) (fp : List Addr), PG (X.blk s H scope (compEnvC scope cl C X.env) fp) tg g) (ht : ∀ (s : Shared) (H : Hp) (C : Addr) (cl : List (Str × Addr)) (fp : List Addr), PTs (X.blk s H scope (compEnvC scope cl C X.env) fp) ifs tt)
    (hk : ∀ (s : Shared) (H : Hp) (C : Addr) (cl : List (Str × Addr)) (fp : List Addr), PE (X.blk s H scope (compEnvC scope cl C X.env) fp) kx tk) (hv : ∀ (s : Shared) (H : Hp) (C : Addr) (cl : List (Str × Addr)) (fp : List Addr), PE (X.blk s H scope (compEnvC scope cl C X.env) fp) vx tv)
    (ho : o = .dK [] ∨ o = .dT [] := by first | exact .inl rfl | exact .inr rfl) (hs : ∀ env x, foldedSetIterable iter env x = pure x := by intro _ _; rfl) :
    PS X (.Assign [.Name y py] (.DictComp kx vx [⟨tg, iter, ifs, 0⟩] scope pos) spos) (tAsg (tDg o wi g tt (tlSet tk tv) (own.map (·.2))) (gName i)) := by
  refine ⟨fun pins s σ H D I h => ?_⟩
  rw [exec_Assign_Name_used _ _ _ _ hsw]
  refine wpAny_bind (wpAny_standAt (wpAny_bind ?_))
  show wpAny _ X.A (do let _ ← comprehension (.DictComp kx vx [⟨tg, iter, ifs, 0⟩] scope pos) scope X.env (firstIterPos [⟨tg, iter, ifs, 0⟩] pos) newDict false (eval iter X.env) (some (assign (.Name y py) X.env))) _ _ s
  have h : tDg o wi g tt (tlSet tk tv) (own.map (·.2)) σ H (fun x H1 => gName i x σ H1 D.nx) := h
  refine wpAny_bind (thn (dg_core (Lf := fun ce D => LfSet X.prog X.w X.A kx vx D ce) (Qf := fun _ s' => SP X pins D .next s') ho hc hN I hi ok (fun ce D _ => loop1) (fun ce D s P Q k z => mono_set k z) hg ht (fun s H C cl fp => pl_set hu blk_no (hk s H C cl fp) (hv s H C cl fp)) hs h
    fun L C s' m H' I' q hn f => ?_) fun _ s' hq => wpAny_pure (wpAny_pure hq))
  show wpAny _ _ (assign (.Name y py) X.env (.ref L)) _ _ _
  refine wpAny_assign_Name (store_ok2 (v := V.ref L) I' hN hy (.inl hyl) rfl (fun s2 I2 ⟨a, sb, ha⟩ => ?_) (.inr hyl))
  obtain ⟨f0, f1, f2, f3, f4, f5⟩ := f
  have haC : C ≠ a := by
    rcases ha with z | z
    · rw [z]; exact f1
    · exact fun e => f4 y a z e.symm
  refine ⟨m, hn.sameBut sb haC, fun h3 sb3 => ?_⟩
  exact ⟨_, H', I2.turned (t' := s2.toks) (fun b o hb e => (sb3.2 b hb).trans e) f0 f1 f3 f4 f5, q⟩
theorem sw_dict {kx vx : Expr} {gs : List Comprehension} {scope : Scope} {pos py : Pos} {y : Str} {l : Nat} {env : Env} (hk : env.scope.kind = .function) (hy : env.scope.names.lookup y = some .local) (hl : (py.line == pos.line) = true)
    (ha : (scope.names.any fun (n, k) => n == y && (k == .local || k == .cell)) = false) : swapsWith (.DictComp kx vx gs scope pos) (some (.Name y py)) l env = pure true := by
  have ky : env.kindOf y = some .local := hy
  have hb : env.blockKind = .function := by unfold Env.blockKind; rw [hk]; rfl
  unfold swapsWith
  simp only [hb, ky, ha, Expr.pos, hl]
  rfl

/-! ### what is walked, by its length -/
/-- n turns; as long as Kp holds turn i yields what Y says -/
structure Wk (J : It) (n : Nat) (Kp : Hp → Prop) (Y : Nat → V → Hp → Hp → Prop) : Prop where
  go : ∀ i H, i < n → Kp H → J.go i H
  stop : ∀ H, Kp H → J.stop n H
  yld : ∀ i H x H', Kp H → J.yld i H x H' → Y i x H H'
theorem Wk.list {K : PySem.W.Frag} {a : Addr} {xs : List V} : Wk (Itl K a) xs.length (fun H => SqL K H a xs) (fun i x H H' => H' = H ∧ xs[i]? = some x) :=
  ⟨fun i H h k => ⟨xs, xs[i], k, by simp [h]⟩, fun H k => ⟨xs, k, Nat.le_refl _⟩, fun i H x H' k ⟨e, y⟩ => ⟨e, y xs k⟩⟩
theorem Wk.tup {K : PySem.W.Frag} {a : Addr} {xs : List V} : Wk (Itt K a) xs.length (fun H => SqT K H a xs) (fun i x H H' => H' = H ∧ xs[i]? = some x) :=
  ⟨fun i H h k => ⟨xs, xs[i], k, by simp [h]⟩, fun H k => ⟨xs, k, Nat.le_refl _⟩, fun i H x H' k ⟨e, y⟩ => ⟨e, y xs k⟩⟩
theorem Wk.range {lo : Int} {n : Nat} : Wk (Itr lo n) n (fun _ => True) (fun i x H H' => H' = H ∧ x = .int (lo + i)) :=
  ⟨fun i H h _ => h, fun H _ => Nat.le_refl _, fun i H x H' _ y => y⟩
theorem Wk.str {z : Str} : Wk (Its z) z.cps.size (fun _ => True) (fun i x H H' => H' = H ∧ ∃ c, z.cps[i]? = some c ∧ x = .str ⟨#[c]⟩) :=
  ⟨fun i H h _ => h, fun H _ => Nat.le_refl _, fun i H x H' _ y => y⟩
theorem mp_get {α β κ : Type} {f : α → κ} {h : β → V} {l : List (α × β)} {i : Nat} {k : κ} {v : V} (e : (mp f h l)[i]? = some (k, v)) : ∃ p, l[i]? = some p ∧ k = f p.1 ∧ v = h p.2 := by
  unfold mp at e
  rw [List.getElem?_map] at e
  cases q : l[i]? with
  | none => rw [q] at e; cases e
  | some p =>
    rw [q] at e
    have e' : (f p.1, h p.2) = (k, v) := Option.some.inj e
    cases e'
    exact ⟨p, rfl, rfl, rfl⟩
theorem Wk.keys {β : Type} {h : β → V} {l : List (Str × β)} {d : Addr} {o : Obj} : Wk (Itk d o (mp ks h l)) l.length (fun H => H d = some (.frz o (.dK (mp ks h l)))) (fun i x H H' => H' = H ∧ ∃ p, l[i]? = some p ∧ x = .str p.1) :=
  ⟨fun i H q k => ⟨k, by rw [mp_len]; exact q⟩, fun H k => ⟨k, by rw [mp_len]; exact Nat.le_refl _⟩, fun i H x H' k ⟨e, k', v, g, y⟩ => by
    obtain ⟨p, h1, h2, _⟩ := mp_get g
    exact ⟨e, p, h1, by rw [y, h2]; rfl⟩⟩
theorem Wk.keysT {β : Type} {h : β → V} {l : List ((Str × Str) × β)} {d : Addr} {o : Obj} : Wk (Itkt d o (mp k2 h l)) l.length (fun H => H d = some (.frz o (.dT (mp k2 h l)))) (fun i x H H' => H' = H ∧ ∃ p q, l[i]? = some p ∧ x = .ref q ∧ H q = some (.tup [.str p.1.1, .str p.1.2])) :=
  ⟨fun i H q k => ⟨k, by rw [mp_len]; exact q⟩, fun H k => ⟨k, by rw [mp_len]; exact Nat.le_refl _⟩, fun i H x H' k ⟨e, k', v, q, g, y, t⟩ => by
    obtain ⟨p, h1, h2, _⟩ := mp_get g
    exact ⟨e, p, q, h1, y, by rw [t, h2]; rfl⟩⟩
theorem Wk.items {l : List (Str × Str)} {d : Addr} {o : Obj} : Wk (Iti d o (mp ks V.str l)) l.length (fun H => H d = some (.frz o (.dK (mp ks V.str l)))) (fun i x H H' => ∃ p T, l[i]? = some p ∧ x = .ref T ∧ H T = none ∧ H' = upd H T (.tup [.str p.1, .str p.2])) :=
  ⟨fun i H q k => ⟨k, by rw [mp_len]; exact q⟩, fun H k => ⟨k, by rw [mp_len]; exact Nat.le_refl _⟩, fun i H x H' k ⟨T, k', v, g, y, t, e⟩ => by
    obtain ⟨p, h1, h2, h3⟩ := mp_get g
    exact ⟨p, T, h1, y, t, by rw [e, h2, h3]; rfl⟩⟩
theorem Wk.enum {K : PySem.W.Frag} {a : Addr} {xs : List V} : Wk (Ite K a) xs.length (fun H => SqL K H a xs) (fun i v H H' => ∃ T x, v = .ref T ∧ H T = none ∧ H' = upd H T (.tup [.int (i : Nat), x]) ∧ xs[i]? = some x) :=
  ⟨fun i H h k => ⟨xs, xs[i], k, by simp [h]⟩, fun H k => ⟨xs, k, Nat.le_refl _⟩, fun i H x H' k ⟨T, y, e, n, e', q⟩ => ⟨T, y, e, n, e', q xs k⟩⟩
section
variable {J : It} {n : Nat} {Kp : Hp → Prop} {Y : Nat → V → Hp → Hp → Prop}
theorem for_w (w : Wk J n Kp Y) {g : TG} {tb : TS} {D : Ends} {σ : L2.St} {H : Hp} (Pv : Nat → L2.St → Hp → Prop) (h0 : Pv 0 σ H) (hk : ∀ i σ H, i ≤ n → Pv i σ H → Kp H)
    (hs : ∀ i x σ H H', i < n → Pv i σ H → Y i x H H' → g x σ H' fun σ2 H2 => tb { D with nx := Pv (i + 1), ct := Pv (i + 1), bk := D.nx } σ2 H2) (hd : ∀ σ H, Pv n σ H → D.nx σ H) :
    ∃ W : Nat → Nat → L2.St → Hp → Prop, (∃ m, W 0 m σ H) ∧ ∀ i m σ H, W i m σ H →
      (J.stop i H ∧ D.nx σ H) ∨ (J.go i H ∧ ∃ N : L2.St → Hp → Prop, (∀ σ' H', N σ' H' → ∃ m', m' < m ∧ W (i + 1) m' σ' H') ∧ ∀ x H', J.yld i H x H' → g x σ H' fun σ2 H2 => tb { D with nx := N, ct := N, bk := D.nx } σ2 H2) := by
  refine ⟨fun i m σ H => m = n - i ∧ i ≤ n ∧ Pv i σ H, ⟨n, by simp, Nat.zero_le _, h0⟩, ?_⟩
  rintro i m σ H ⟨rfl, hi, p⟩
  by_cases lt : i < n
  · exact .inr ⟨w.go i H lt (hk i σ H hi p), Pv (i + 1), fun σ' H' p' => ⟨n - (i + 1), by omega, rfl, lt, p'⟩, fun x H' y => hs i x σ H H' lt p (w.yld i H x H' (hk i σ H hi p) y)⟩
  · have e : i = n := by omega
    subst e
    exact .inl ⟨w.stop H (hk _ σ H hi p), hd σ H p⟩
theorem lc_w (w : Wk J n Kp Y) {g : TG} {tt : TT} {te : TE} {vs : List Nat} {σ : L2.St} {H1 : Hp} {D : Addr} {Qd : Hp → Prop} (Pv : Nat → Hp → Prop) (h0 : Pv 0 (upd H1 D (.lst []))) (hk : ∀ i H, i ≤ n → Pv i H → Kp H)
    (hs : ∀ i x H H', i < n → Pv i H → Y i x H H' → g x (wipe σ vs) H' fun σ2 H2 => wipe σ2 vs = wipe σ vs ∧ tt σ2 H2 fun b H3 =>
      if b = true then te σ2 H3 fun y H4 => ∃ acc, H4 D = some (.lst acc) ∧ acc.length < sizeLine ∧ Pv (i + 1) (upd H4 D (.lst (acc ++ [y]))) else Pv (i + 1) H3) (hd : ∀ H, Pv n H → Qd H) :
    ∃ W : Nat → Nat → Hp → Prop, (∃ m, W 0 m (upd H1 D (.lst []))) ∧ ∀ i m H, W i m H →
      (J.stop i H ∧ Qd H) ∨ (J.go i H ∧ ∃ Nx : Hp → Prop, (∀ H', Nx H' → ∃ m', m' < m ∧ W (i + 1) m' H') ∧ ∀ x H', J.yld i H x H' → g x (wipe σ vs) H' fun σ2 H2 => wipe σ2 vs = wipe σ vs ∧ tt σ2 H2 fun b H3 =>
        if b = true then te σ2 H3 fun y H4 => ∃ acc, H4 D = some (.lst acc) ∧ acc.length < sizeLine ∧ Nx (upd H4 D (.lst (acc ++ [y]))) else Nx H3) := by
  refine ⟨fun i m H => m = n - i ∧ i ≤ n ∧ Pv i H, ⟨n, by simp, Nat.zero_le _, h0⟩, ?_⟩
  rintro i m H ⟨rfl, hi, p⟩
  by_cases lt : i < n
  · exact .inr ⟨w.go i H lt (hk i H hi p), Pv (i + 1), fun H' p' => ⟨n - (i + 1), by omega, rfl, lt, p'⟩, fun x H' y => hs i x H H' lt p (w.yld i H x H' (hk i H hi p) y)⟩
  · have e : i = n := by omega
    subst e
    exact .inl ⟨w.stop H (hk _ H hi p), hd H p⟩
theorem turns_w (w : Wk J n Kp Y) {g : TG} {tt : TT} {tl : TL} {vs : List Nat} {σ : L2.St} {H1 : Hp} {D : Addr} {End : Hp → Prop} (Pv : Nat → Hp → Prop) (h0 : Pv 0 H1) (hk : ∀ i H, i ≤ n → Pv i H → Kp H)
    (hs : ∀ i x H H', i < n → Pv i H → Y i x H H' → g x (wipe σ vs) H' fun σ2 H2 => wipe σ2 vs = wipe σ vs ∧ tt σ2 H2 fun b H3 => if b = true then tl D σ2 H3 (Pv (i + 1)) else Pv (i + 1) H3) (hd : ∀ H, Pv n H → End H) : Turns J g tt tl σ vs D H1 End := by
  refine ⟨fun i m H => m = n - i ∧ i ≤ n ∧ Pv i H, ⟨n, by simp, Nat.zero_le _, h0⟩, ?_⟩
  rintro i m H ⟨rfl, hi, p⟩
  by_cases lt : i < n
  · exact .inr ⟨w.go i H lt (hk i H hi p), Pv (i + 1), fun H' p' => ⟨n - (i + 1), by omega, rfl, lt, p'⟩, fun x H' y => hs i x H H' lt p (w.yld i H x H' (hk i H hi p) y)⟩
  · have e : i = n := by omega
    subst e
    exact .inl ⟨w.stop H (hk _ H hi p), hd H p⟩
end
/-- a statement in which nothing is raised -/
theorem ps_nox {st : Stmt} {t : TS} (h : PS X.nox st t) : PS X st t := ⟨fun pins s σ H D I hw => wpAny_mono (h.run pins s σ H D (I.wish _) hw) (fun _ _ q => q.unwish) fun _ _ z => False.elim z⟩
end
theorem t_yes {σ : L2.St} {H : Hp} {A B : Prop} {f : Bool → Hp → Prop} (h : f true H) : tYes σ H f := h
theorem yesT {σ : L2.St} {H : Hp} {A B : Hp → Prop} (h : A H) : tYes σ H fun b H3 => if b = true then A H3 else B H3 := t_yes (A := True) (B := True) (by rw [if_pos rfl]; exact h)
end GF

/- DSeek -/
set_option Elab.async false
set_option linter.all false
set_option maxRecDepth 100000
set_option maxHeartbeats 4000000
namespace GF
open PySem PySem.Spec PyProof.Rows L2 GR
/-- what seek is handed -/
structure SkIn (H : Hp) (r h s : Addr) (gs ps : List Str) (ad : Str → Addr) (rw_ : Str → List Str) (held : List (Str × Str)) (seen : List Str) : Prop where
  rows : RowsAt H r gs ad rw_
  sub : ∀ g t, g ∈ gs → t ∈ rw_ g → t ∈ ps
  few : ps.length ≤ 1000
  hh : H h = some (dS held)
  hs : H s = some (dB seen)
  rh : r ≠ h
  rs : r ≠ s
  ne : h ≠ s
  nd : (keys held).Nodup
  ns : seen.Nodup
  val : Val rw_ held
  hg : ∀ t x, gt held t = some x → x ∈ gs
  sp : ∀ t, t ∈ seen → t ∈ ps
def left (ps seen : List Str) : Nat := (ps.filter fun t => decide (t ∉ seen)).length
def spSeek (n : Nat) : Sp := fun vs H Q _ => ∃ (r h s : Addr) (g : Str) (gs ps : List Str) (ad : Str → Addr) (rw_ : Str → List Str) (held : List (Str × Str)) (seen : List Str),
  vs = [.ref r, .str g, .ref h, .ref s] ∧ SkIn H r h s gs ps ad rw_ held seen ∧ g ∈ gs ∧ Sk g held seen ∧ left ps seen < n ∧
  (∀ H' held' seen', But [h, s] H H' → SkIn H' r h s gs ps ad rw_ held' seen' → SkT g held seen held' → (∀ t, t ∈ keys held' → t ∈ keys held ∨ t ∈ ps) → Q (.bl true) H') ∧
  (∀ H' seen', But [h, s] H H' → SkIn H' r h s gs ps ad rw_ held seen' → SkF rw_ g held seen seen' → Q (.bl false) H')
theorem left_lt {ps seen : List Str} {t : Str} (ht : t ∈ ps) (h : t ∉ seen) : left ps (seen ++ [t]) < left ps seen := by
  unfold left
  induction ps with
  | nil => simp at ht
  | cons a l ih =>
    have mono : ∀ l : List Str, (l.filter fun u => decide (u ∉ seen ++ [t])).length ≤ (l.filter fun u => decide (u ∉ seen)).length := fun l => by
      induction l with
      | nil => simp
      | cons b l ih2 =>
        rw [List.filter_cons, List.filter_cons]
        by_cases c : b ∈ seen
        · simp [c]
          simpa using ih2
        · by_cases d : b = t
          · simp [c, d]
            have := ih2
            simp at this
            split <;> simp <;> omega
          · simp [c, d]
            simpa using ih2
    rw [List.filter_cons, List.filter_cons]
    by_cases d : a = t
    · subst d
      have := mono l
      simp [h]
      simp at this
      omega
    · have ih' := ih (by
        rcases List.mem_cons.mp ht with e | e
        · exact absurd e.symm d
        · exact e)
      by_cases c : a ∈ seen
      · simp [c]
        simpa using ih'
      · simp [c, d]
        simpa using ih'
theorem left_mono {ps a b : List Str} (h : ∀ t, t ∈ a → t ∈ b) : left ps b ≤ left ps a := by
  unfold left
  induction ps with
  | nil => simp
  | cons x l ih =>
    rw [List.filter_cons, List.filter_cons]
    by_cases c : x ∈ a
    · simp [c, h x c]
      simpa using ih
    · by_cases d : x ∈ b
      · simp [c, d]
        simp at ih
        omega
      · simp [c, d]
        simpa using ih
theorem SkIn.few_h {H : Hp} {r h s : Addr} {gs ps : List Str} {ad : Str → Addr} {rw_ : Str → List Str} {held : List (Str × Str)} {seen : List Str} (I : SkIn H r h s gs ps ad rw_ held seen) : held.length < sizeLine := by
  have l := len_le_of_sub (m := ps) I.nd fun t ht => by
    obtain ⟨x, e⟩ := gt_key_some ht
    exact I.sub x t (I.hg t x e) (I.val t x e)
  have := I.few
  unfold keys at l
  rw [List.length_map] at l
  exact sz1000 (by omega)
theorem SkIn.few_s {H : Hp} {r h s : Addr} {gs ps : List Str} {ad : Str → Addr} {rw_ : Str → List Str} {held : List (Str × Str)} {seen : List Str} (I : SkIn H r h s gs ps ad rw_ held seen) : (mkB seen).length < sizeLine := by
  have l := len_le_of_sub (m := ps) I.ns I.sp
  have := I.few
  rw [mkB_len]
  exact sz1000 (by omega)
theorem SkIn.see {H : Hp} {r h s : Addr} {gs ps : List Str} {ad : Str → Addr} {rw_ : Str → List Str} {held : List (Str × Str)} {seen : List Str} (I : SkIn H r h s gs ps ad rw_ held seen) {t : Str} (ht : t ∉ seen) (hp : t ∈ ps) :
    SkIn (upd H s (dB (seen ++ [t]))) r h s gs ps ad rw_ held (seen ++ [t]) := by
  have b : But [s] H (upd H s (dB (seen ++ [t]))) := But.at (by simp)
  refine ⟨I.rows.but b (by simp [I.rs]) (fun a ha => by obtain rfl := List.mem_singleton.mp ha; exact ⟨_, I.hs⟩), I.sub, I.few, by rw [upd_ne I.ne]; exact I.hh, upd_same, I.rh, I.rs, I.ne, I.nd, GR.nd_snoc I.ns ht, I.val, I.hg, fun u hu => ?_⟩
  rcases List.mem_append.mp hu with q | q
  · exact I.sp u q
  · rw [List.mem_singleton.mp q]; exact hp
theorem SkIn.hold {H : Hp} {r h s : Addr} {gs ps : List Str} {ad : Str → Addr} {rw_ : Str → List Str} {held : List (Str × Str)} {seen : List Str} (I : SkIn H r h s gs ps ad rw_ held seen) {t g : Str} (hg : g ∈ gs) (ht : t ∈ rw_ g) :
    SkIn (upd H h (dS (put held t g))) r h s gs ps ad rw_ (put held t g) seen := by
  have b : But [h] H (upd H h (dS (put held t g))) := But.at (by simp)
  refine ⟨I.rows.but b (by simp [I.rh]) (fun a ha => by obtain rfl := List.mem_singleton.mp ha; exact ⟨_, I.hh⟩), I.sub, I.few, upd_same, by rw [upd_ne (Ne.symm I.ne)]; exact I.hs, I.rh, I.rs, I.ne, nd_put _ I.nd, I.ns, I.val.put ht, fun u x e => ?_, I.sp⟩
  rw [gt_put] at e
  by_cases c : u = t
  · rw [if_pos c] at e
    cases e
    exact hg
  · rw [if_neg c] at e
    exact I.hg u x e
theorem But.sub {S S' : List Addr} {H H' : Hp} (b : But S H H') (h : ∀ a, a ∈ S → a ∈ S') : But S' H H' := fun c o n e => b c o (fun m => n (h c m)) e
abbrev nSeek : List Str := ["rows", "giver", "held", "seen", "taker"]
theorem scSeek : FnScope nSeek ["rows", "giver", "held", "seen"] dSeek.scope := ⟨rfl, rfl, rfl, by decide +kernel, rfl, by decide +kernel, by decide +kernel⟩
section
variable {P : Program} {w : World} {K : PySem.W.Frag} {mg : Str → Option Value} {base : Heap}
theorem ok_seek (T : Tx K mg) : ∀ n : Nat, Ok P w K mg base CX0 n dSeek ["rows", "giver", "held", "seen"] (spSeek n)
  | 0 => Ok.never T _ ixSeek (fun _ _ _ _ _ _ us hl => match us, hl with | [_, _, _, _], _ => rfl) fun vs H Q E h => by
    obtain ⟨r, h, s, g, gs, ps, ad, rw_, held, seen, _, _, _, _, l, _⟩ := h
    omega
  | n + 1 => by
    have IH := ok_seek T n
    refine Ok.mk0 T _ ixSeek scSeek (fun _ _ _ _ _ _ us hl => match us, hl with | [_, _, _, _], _ => rfl) (fun vs H Q E h => ?_) (fun f cdv A outer st H vs Q E hr h => ?_)
    · obtain ⟨r, h, s, g, gs, ps, ad, rw_, held, seen, rfl, _⟩ := h
      rfl
    · have hu := hu_of hr
      obtain ⟨r, h, s, g, gs, ps, ad, rw_, held, seen, rfl, I0, hg, sk, hl, kT, kF⟩ := h
      refine ⟨_, pss_cons (ps_for PassesOwn.never rfl (pi_list (pe_dget hu (pv 0) (pv 1) (fun _ _ => rfl))) (pg_name (i := 4) scSeek.nd rfl (.inl rfl))
          (pss_cons (ps_if (pt_cmp (pc_din hu (pv 4) (pv 3))) (pss_one ps_continue) pss_nil)
          (pss_cons (ps_dput hu (pv 3) (pv 4) pe_bl rfl)
          (pss_one (ps_if (PW.pt (pw_or (pt_cmp (pc_dnotin hu (pv 4) (pv 2))) (pw_or1 (pt_val (pc IH hr (Nat.le_refl _) T.g_seek pass0 (pa_cons (pv 0) (pa_cons (pe_dget hu (pv 2) (pv 4) (fun _ _ => rfl)) (pa_cons (pv 2) (pa_cons (pv 3) pa_nil)))))))))
            (pss_cons (ps_dput hu (pv 2) (pv 4) (pv 1) rfl) (pss_one (ps_ret pe_bl))) pss_nil)))))
        (pss_one (ps_ret pe_bl)), ?_⟩
      refine ⟨_, rfl, _, rfl, r, _, rfl, I0.rows.get hg, ad g, rfl, ⟨_, I0.rows.seq hg⟩, for_list (K := K) (a := ad g) (xs := (rw_ g).map V.str)
        (fun i σ H' => ∃ (v : Option V) (seen1 : List Str), σ = [some (.ref r), some (.str g), some (.ref h), some (.ref s), v] ∧ But [h, s] H H' ∧ SkIn H' r h s gs ps ad rw_ held seen1 ∧ SkL rw_ ((rw_ g).take i) held seen seen1)
        ⟨none, seen, rfl, But.refl _ _, I0, SkL.start⟩ (fun i σ H' _ ⟨v, seen1, _, _, I, _⟩ => I.rows.seq hg) ?_ ?_⟩
      · rintro i y σ H' hi ⟨v, seen1, rfl, b, I, L⟩
        obtain ⟨t, ht, rfl⟩ : ∃ t, (rw_ g)[i]? = some t ∧ y = V.str t := by
          rw [List.getElem?_map] at hi
          cases e : (rw_ g)[i]? with
          | none => rw [e] at hi; cases hi
          | some t => rw [e] at hi; exact ⟨t, rfl, (Option.some.inj hi).symm⟩
        have tin : t ∈ rw_ g := List.mem_of_getElem? ht
        have tp : t ∈ ps := I.sub g t hg tin
        have tk : (rw_ g).take (i + 1) = (rw_ g).take i ++ [t] := by rw [List.take_succ, ht]; rfl
        refine ⟨_, rfl, _, rfl, s, _, rfl, dget_s (.inl I.hs) t, _, rfl, ?_⟩
        rw [gt_mkB]
        by_cases c : t ∈ seen1
        · rw [if_pos c]
          exact ⟨some (.str t), seen1, rfl, b, I, by rw [tk]; exact L.skip c⟩
        · rw [if_neg c]
          have I1 := I.see c tp
          have cs : t ∉ seen := fun m => c (L.sub t m)
          refine ⟨_, rfl, _, rfl, s, _, rfl, dput_s I.hs t true I.few_s, ?_⟩
          rw [put_mkB c]
          have b1 : But [h, s] H (upd H' s (dB (seen1 ++ [t]))) := b.trans (But.at (by simp))
          refine ⟨_, rfl, _, rfl, h, _, rfl, dget_s (.inl I1.hh) t, _, rfl, ?_⟩
          cases e : gt held t with
          | none =>
            refine iteT (iteT ?_)
            refine ⟨_, rfl, _, rfl, _, rfl, h, _, rfl, dput_s I1.hh t g I1.few_h, ?_⟩
            exact kT _ _ _ (b1.trans (But.at (by simp))) (I1.hold hg tin) (SkT.free sk cs e) fun u hu => by
              rcases mem_keys_put.mp hu with q | q
              · exact .inr (q ▸ tp)
              · exact .inl q
          | some x =>
            refine iteF ?_
            refine ⟨_, rfl, _, rfl, _, rfl, h, _, rfl, ?_, _, rfl, _, rfl, r, h, s, x, gs, ps, ad, rw_, held, seen1 ++ [t], rfl, I1, I.hg t x e, sk.inner L.sub cs e, ?_, ?_, ?_⟩
            · have q := dget_s (.inl I1.hh) t
              rw [e] at q
              exact q
            · have l1 := left_lt tp c
              have l2 := left_mono (ps := ps) L.sub
              omega
            · intro H2 held2 seen2 b2 I2 t2 k2
              refine ⟨true, rfl, iteT ?_⟩
              refine ⟨_, rfl, _, rfl, _, rfl, h, _, rfl, dput_s I2.hh t g I2.few_h, ?_⟩
              exact kT _ _ _ ((b1.trans b2).trans (But.at (by simp))) (I2.hold hg tin) (SkT.step sk L.sub cs e t2) fun u hu => by
                rcases mem_keys_put.mp hu with q | q
                · exact .inr (q ▸ tp)
                · exact k2 u q
            · intro H2 seen2 b2 I2 f2
              refine ⟨false, rfl, iteF ?_⟩
              exact ⟨some (.str t), seen2, rfl, b1.trans b2, I2, by rw [tk]; exact L.step e f2⟩
      · rintro σ H' ⟨v, seen1, rfl, b, I, L⟩
        rw [List.length_map, List.take_length] at L
        exact kF H' seen1 b I L.fin
end
end GF

/- DPair -/
set_option Elab.async false
set_option linter.all false
set_option maxRecDepth 100000
set_option maxHeartbeats 4000000
namespace GF
open PySem PySem.Spec PyProof.Rows L2 GR
/-- a table of rows: givers without repeats, takers among few -/
structure Tab (gs ps : List Str) (rw_ : Str → List Str) : Prop where
  nd : gs.Nodup
  sub : ∀ g t, g ∈ gs → t ∈ rw_ g → t ∈ ps
  few : ps.length ≤ 24
  fewg : gs.length ≤ 24
/-- the rows' own dict, unlocked -/
structure RowsU (H : Hp) (r : Addr) (gs : List Str) (ad : Str → Addr) (rw_ : Str → List Str) : Prop where
  dk : H r = some (.dK (mp ks V.ref (gs.map fun g => (g, ad g))))
  ls : ∀ g, g ∈ gs → Rd H (ad g) (.lst ((rw_ g).map V.str))
theorem RowsU.at {H : Hp} {r : Addr} {gs : List Str} {ad : Str → Addr} {rw_ : Str → List Str} (h : RowsU H r gs ad rw_) : RowsAt H r gs ad rw_ := ⟨.inl h.dk, h.ls⟩
theorem RowsU.same {H H' : Hp} {r : Addr} {gs : List Str} {ad : Str → Addr} {rw_ : Str → List Str} (h : RowsU H r gs ad rw_) (s : Same H H') : RowsU H' r gs ad rw_ := ⟨s _ _ h.dk, fun g hg => (Lq.of s).rd _ _ trivial (h.ls g hg)⟩
abbrev dF (gs : List Str) (f : Str → Str) : HO := dS (gs.map fun g => (g, f g))
def spPaired : Sp := fun vs H Q _ => ∃ (r : Addr) (gs ps : List Str) (ad : Str → Addr) (rw_ : Str → List Str), vs = [.ref r] ∧ RowsU H r gs ad rw_ ∧ Tab gs ps rw_ ∧
  (∀ H' d f, Same H H' → H d = none → H' d = some (dF gs f) → PM gs rw_ f → Q (.ref d) H') ∧ (∀ H', Same H H' → (¬ ∃ f, PM gs rw_ f) → Q .non H')
/-- between two turns of the loop over the givers -/
structure PairI (H0 H' : Hp) (r h : Addr) (gs ps : List Str) (ad : Str → Addr) (rw_ : Str → List Str) (i : Nat) (held : List (Str × Str)) : Prop where
  same : Same H0 H'
  hh : H' h = some (dS held)
  hl : Held (gs.take i) rw_ held
theorem keys_sub_of_val {gs ps : List Str} {rw_ : Str → List Str} {held : List (Str × Str)} (T : Tab gs ps rw_) (i : Nat) (hl : Held (gs.take i) rw_ held) : held.length ≤ 24 := by
  have l := len_le_of_sub (m := ps) hl.nd fun t ht => by
    obtain ⟨x, e⟩ := gt_key_some ht
    exact T.sub x t (List.mem_of_mem_take ((hl.rng x).mp ⟨t, e⟩)) (hl.val t x e)
  have := T.few
  unfold keys at l
  rw [List.length_map] at l
  omega
theorem left_lt_few {ps : List Str} (h : ps.length ≤ 24) (seen : List Str) : left ps seen < 25 := by
  unfold left
  have := List.length_filter_le (fun t => decide (t ∉ seen)) ps
  omega
abbrev nPaired : List Str := ["rows", "held", "giver", "takers", "taker"]
theorem scPaired : FnScope nPaired ["rows"] dPaired.scope := ⟨rfl, rfl, rfl, by decide +kernel, rfl, by decide +kernel, by decide +kernel⟩
section
variable {P : Program} {w : World} {K : PySem.W.Frag} {mg : Str → Option Value} {base : Heap}
theorem ok_paired (T : Tx K mg) : Ok P w K mg base CX0 26 dPaired ["rows"] spPaired := by
  have S := ok_seek (P := P) (w := w) (base := base) T 25
  refine Ok.mk0 T _ ixPaired scPaired (fun _ _ _ _ _ _ us hl => match us, hl with | [_], _ => rfl) (fun vs H Q E h => ?_) (fun f cdv A outer st H vs Q E hr h => ?_)
  · obtain ⟨r, gs, ps, ad, rw_, rfl, _⟩ := h
    rfl
  · have hu := hu_of hr
    obtain ⟨r, gs, ps, ad, rw_, rfl, R, Tb, kS, kN⟩ := h
    refine ⟨_, pss_cons (ps_set (i := 1) scPaired.nd rfl (.inr rfl) pe_dnewK)
      (pss_cons (ps_lock (ps_for PassesOwn.never rfl (pi_keys (pv 0)) (pg_name (i := 2) scPaired.nd rfl (.inl rfl))
        (pss_one (ps_if (pt_not (pt_val (pc S hr (Nat.le_refl _) T.g_seek pass0 (pa_cons (pv 0) (pa_cons (pv 2) (pa_cons (pv 1) (pa_cons pe_dnewK pa_nil)))))))
          (pss_one (ps_ret pe_non)) pss_nil))))
      (pss_cons (ps_set (i := 3) scPaired.nd rfl (.inr rfl) (pe_lock (pe_dg (own := [("taker", 4)]) (o := .dK []) (g := gName 4) (tt := tYes) hu rfl scPaired.nd (pi_keys (pv 1)) (blkOk_by (N := nPaired) (sc := dPaired.scope) (by decide +kernel))
          (fun _ _ _ _ _ => pg_name (i := 4) scPaired.nd rfl (.inl rfl)) (fun _ _ _ _ _ => pts_nil) (fun _ _ _ _ _ => pe_dget hu (pv 1) (pv 4) (fun _ _ => rfl)) (fun _ _ _ _ _ => pv 4))))
      (pss_one (ps_ret (pe_lock (pe_dg (own := [("giver", 2)]) (o := .dK []) (g := gName 2) (tt := tYes) hu rfl scPaired.nd (pi_keys (pv 0)) (blkOk_by (N := nPaired) (sc := dPaired.scope) (by decide +kernel))
          (fun _ _ _ _ _ => pg_name (i := 2) scPaired.nd rfl (.inl rfl)) (fun _ _ _ _ _ => pts_nil) (fun _ _ _ _ _ => pv 2) (fun _ _ _ _ _ => pe_dget hu (pv 3) (pv 2) (fun _ _ => rfl)))))))), ?_⟩
    intro h0 hh0
    have R1 := R.same (Same.new (o := .dK []) hh0)
    have rh : r ≠ h0 := ne_of_none R.dk hh0
    refine ⟨r, _, R1.dk, trivial, fun od => ?_⟩
    -- the loop over the givers
    have frz : (upd (upd H h0 (.dK [])) r (.frz od (.dK (mp ks V.ref (gs.map fun g => (g, ad g)))))) r = some (.frz od (.dK (mp ks V.ref (gs.map fun g => (g, ad g))))) := upd_same
    have fh : (upd (upd H h0 (.dK [])) r (.frz od (.dK (mp ks V.ref (gs.map fun g => (g, ad g)))))) h0 = some (dS []) := by rw [upd_ne (Ne.symm rh)]; exact upd_same
    refine ⟨_, rfl, r, od, rfl, .inl ⟨_, frz, ?_⟩⟩
    refine for_w Wk.keys (fun i σ H' => ∃ (v : Option V) (held : List (Str × Str)), σ = [some (.ref r), some (.ref h0), v, none, none] ∧ PairI (upd H r (.frz od (.dK (mp ks V.ref (gs.map fun g => (g, ad g)))))) H' r h0 gs ps ad rw_ i held)
      ⟨none, [], rfl, ⟨fun b o e => ?_, fh, Held.nil⟩⟩ (fun i σ H' _ ⟨v, held, _, I⟩ => I.same _ _ upd_same) ?_ ?_
    · by_cases c : b = r
      · subst c; rw [upd_same] at e ⊢; exact e
      · rw [upd_ne c] at e ⊢
        rw [upd_ne (ne_of_none e hh0)]
        exact e
    · rintro i x σ H' H'' hi ⟨v, held, rfl, I⟩ ⟨rfl, p, hp, rfl⟩
      obtain ⟨g, hg, rfl⟩ : ∃ g, gs[i]? = some g ∧ p = (g, ad g) := by
        rw [List.getElem?_map] at hp
        cases e : gs[i]? with
        | none => rw [e] at hp; cases hp
        | some g => rw [e] at hp; exact ⟨g, rfl, (Option.some.inj hp).symm⟩
      have gin : g ∈ gs := List.mem_of_getElem? hg
      have tk : gs.take (i + 1) = gs.take i ++ [g] := take_snoc hg
      have gno : g ∉ gs.take i := not_mem_take Tb.nd hg
      refine ⟨_, rfl, _, rfl, _, rfl, fun s0 hs0 => ?_⟩
      have Ra : RowsAt (upd H'' s0 (.dK [])) r gs ad rw_ := (R.at.lq (Lq.lock od R.dk trivial)).same (Same.new' I.same hs0)
      refine ⟨r, h0, s0, g, gs, ps, ad, rw_, held, [], rfl, ⟨Ra, Tb.sub, by have := Tb.few; omega, by rw [upd_ne (ne_of_none I.hh hs0)]; exact I.hh, upd_same, rh, ne_of_none (I.same _ _ upd_same) hs0, ne_of_none I.hh hs0, I.hl.nd, by simp, I.hl.val,
        fun t x e => List.mem_of_mem_take ((I.hl.rng x).mp ⟨t, e⟩), by simp⟩, gin, I.hl.sk gno, left_lt_few Tb.few [], ?_, ?_⟩
      · intro H2 held2 seen2 b2 I2 t2 _
        refine ⟨true, rfl, ?_⟩
        refine ⟨_, held2, rfl, fun b o e => ?_, I2.hh, by rw [tk]; exact I.hl.next I2.nd t2 I2.val⟩
        have e1 := I.same _ _ e
        refine b2 _ _ (fun m => ?_) (by rw [upd_ne (ne_of_none e1 hs0)]; exact e1)
        rcases List.mem_cons.mp m with q | q
        · rw [q, upd_ne (Ne.symm rh), hh0] at e
          cases e
        · rw [List.mem_singleton.mp q, hs0] at e1
          cases e1
      · intro H2 seen2 b2 I2 f2
        refine ⟨false, rfl, ?_⟩
        have s2 : Same (upd H r (.frz od (.dK (mp ks V.ref (gs.map fun g => (g, ad g)))))) H2 := fun b o e => by
          have e1 := I.same _ _ e
          refine b2 _ _ (fun m => ?_) (by rw [upd_ne (ne_of_none e1 hs0)]; exact e1)
          rcases List.mem_cons.mp m with q | q
          · rw [q, upd_ne (Ne.symm rh), hh0] at e
            cases e
          · rw [List.mem_singleton.mp q, hs0] at e1
            cases e1
        refine ⟨s2 _ _ upd_same, kN _ (Same.unlock R.dk s2) (I.hl.hall gno (gs := gs) (fun x hx => ?_) f2 I2.ns).no⟩
        rcases hx with q | q
        · exact List.mem_of_mem_take q
        · rw [q]; exact gin
    · rintro σ H' ⟨v, held, rfl, I⟩
      rw [List.length_map] at I
      have few := keys_sub_of_val Tb _ I.hl
      have hl : Held gs rw_ held := by have := I.hl; rw [List.take_length] at this; exact this
      refine ⟨I.same _ _ upd_same, ?_⟩
      have s1 : Same H (upd H' r (.dK (mp ks V.ref (gs.map fun g => (g, ad g))))) := Same.unlock R.dk I.same
      generalize hH1 : upd H' r (.dK (mp ks V.ref (gs.map fun g => (g, ad g)))) = H1 at s1 ⊢
      have hh1 : H1 h0 = some (dS held) := by rw [← hH1, upd_ne (Ne.symm rh)]; exact I.hh
      -- takers = {held[taker]: taker for taker in held}
      refine ⟨h0, _, hh1, trivial, fun od2 => ⟨_, rfl, h0, od2, rfl, .inl ⟨_, upd_same, fun D hD => ?_⟩⟩⟩
      have hDh : D ≠ h0 := fun e => by rw [e, upd_same] at hD; cases hD
      have hD1 : H1 D = none := by rw [upd_ne hDh] at hD; exact hD
      refine turns_w Wk.keys (fun i H' => Same (upd H1 h0 (.frz od2 (dS held))) H' ∧ H' D = some (dS (invOf (held.take i)))) ⟨Same.new hD, upd_same⟩ (fun i H' _ p => p.1 _ _ upd_same) ?_ ?_
      · rintro i x H2 H2' hi ⟨s2, d2⟩ ⟨rfl, p, hp, rfl⟩
        have gp : gt held p.1 = some p.2 := gt_of_mem hl.nd (List.mem_of_getElem? hp)
        have q := dget_s (l := held) (h := V.str) (.inr ⟨od2, s2 _ _ upd_same⟩) p.1
        rw [gp] at q
        refine ⟨rfl, yesT ?_⟩
        refine ⟨_, rfl, _, rfl, h0, _, rfl, q, _, rfl, _, dput_s d2 p.2 p.1 ?_, ?_, ?_⟩
        · have := invOf_len (held.take i)
          have l2 : (held.take i).length ≤ held.length := by rw [List.length_take]; omega
          exact sz1000 (by omega)
        · exact (Same.mut s2 (by rw [upd_ne hDh]; exact hD1))
        · rw [upd_same, take_snoc hp, invOf_snoc]
      · rintro H2 ⟨s2, d2⟩
        rw [List.take_length] at d2
        refine ⟨s2 _ _ upd_same, ?_⟩
        have s3 : Same H1 (upd H2 h0 (dS held)) := Same.unlock hh1 s2
        have d3 : (upd H2 h0 (dS held)) D = some (dS (invOf held)) := by rw [upd_ne hDh]; exact d2
        generalize upd H2 h0 (dS held) = H3 at s3 d3 ⊢
        have inv : ∀ x t, gt (invOf held) x = some t ↔ gt held t = some x := invOf_get held hl.nd hl.inj
        -- {giver: takers[giver] for giver in rows}
        have r3 : H3 r = some (.dK (mp ks V.ref (gs.map fun g => (g, ad g)))) := s3 _ _ (s1 _ _ R.dk)
        have rD : r ≠ D := ne_of_none (s1 _ _ R.dk) hD1
        refine ⟨r, _, r3, trivial, fun od3 => ⟨_, rfl, r, od3, rfl, .inl ⟨_, upd_same, fun D2 hD2 => ?_⟩⟩⟩
        have d2r : D2 ≠ r := fun e => by rw [e, upd_same] at hD2; cases hD2
        have hD23 : H3 D2 = none := by rw [upd_ne d2r] at hD2; exact hD2
        have d2D : D2 ≠ D := fun e => by rw [e, d3] at hD23; cases hD23
        refine turns_w Wk.keys (fun i H' => Same (upd H3 r (.frz od3 (.dK (mp ks V.ref (gs.map fun g => (g, ad g)))))) H' ∧ H' D2 = some (dS ((gs.take i).map fun g => (g, (gt (invOf held) g).getD ""))))
          ⟨Same.new hD2, by rw [upd_same]; rfl⟩ (fun i H' _ p => p.1 _ _ upd_same) ?_ ?_
        · rintro i x H4 H4' hi ⟨s4, d4⟩ ⟨rfl, p, hp, rfl⟩
          obtain ⟨g, hg, rfl⟩ : ∃ g, gs[i]? = some g ∧ p = (g, ad g) := by
            rw [List.getElem?_map] at hp
            cases e : gs[i]? with
            | none => rw [e] at hp; cases hp
            | some g => rw [e] at hp; exact ⟨g, rfl, (Option.some.inj hp).symm⟩
          have gin : g ∈ gs := List.mem_of_getElem? hg
          obtain ⟨t, et⟩ := (hl.rng g).mpr gin
          have gi : gt (invOf held) g = some t := (inv g t).mpr et
          have dD : H4' D = some (dS (invOf held)) := s4 _ _ (by rw [upd_ne (Ne.symm rD)]; exact d3)
          have q := dget_s (l := invOf held) (h := V.str) (.inl dD) g
          rw [gi] at q
          refine ⟨rfl, yesT ?_⟩
          refine ⟨_, rfl, _, rfl, _, rfl, D, _, rfl, q, _, dput_s d4 g t ?_, ?_, ?_⟩
          · rw [List.length_map, List.length_take]
            have := Tb.fewg
            exact sz1000 (by omega)
          · exact Same.mut s4 (by rw [upd_ne d2r]; exact hD23)
          · rw [upd_same]
            have e := put_fn (f := fun g => (gt (invOf held) g).getD "") Tb.nd hg
            rw [gi] at e
            rw [← e]
            rfl
        · rintro H4 ⟨s4, d4⟩
          rw [List.length_map, List.take_length] at d4
          refine ⟨s4 _ _ upd_same, ?_⟩
          have s5 : Same H3 (upd H4 r (.dK (mp ks V.ref (gs.map fun g => (g, ad g))))) := Same.unlock r3 s4
          refine kS _ D2 (fun g => (gt (invOf held) g).getD "") ((s1.trans s3).trans s5) ((s1.trans s3).free hD23) (by rw [upd_ne d2r]; exact d4) (hl.pm _ fun g hg => ?_)
          obtain ⟨t, et⟩ := (hl.rng g).mpr hg
          rw [(inv g t).mpr et]
          exact et
end
end GF

/- GStr -/
set_option Elab.async false
set_option linter.all false
set_option maxRecDepth 100000
set_option maxHeartbeats 4000000
/-! The order of texts: sorted lists without repeats are determined by what stands in them. -/
namespace GF
open PySem PySem.Spec PyProof.Rows L2 GR
theorem lt_irr : ∀ a : List Nat, ltCps a a = false
  | [] => rfl
  | x :: r => by
    show (decide (x < x) || (x == x && ltCps r r)) = false
    rw [lt_irr r]
    simp
theorem lt_tr : ∀ a b c : List Nat, ltCps a b = true → ltCps b c = true → ltCps a c = true
  | [], [], c, h, _ => by cases h
  | [], _ :: _, [], _, h => by cases h
  | [], _ :: _, _ :: _, _, _ => rfl
  | _ :: _, [], c, h, _ => by cases h
  | _ :: _, _ :: _, [], _, h => by cases h
  | x :: r, y :: s, z :: t, h1, h2 => by
    have h1' : (decide (x < y) || (x == y && ltCps r s)) = true := h1
    have h2' : (decide (y < z) || (y == z && ltCps s t)) = true := h2
    show (decide (x < z) || (x == z && ltCps r t)) = true
    simp only [Bool.or_eq_true, Bool.and_eq_true, decide_eq_true_eq, beq_iff_eq] at h1' h2' ⊢
    rcases h1' with h1' | ⟨e1, h1'⟩
    · rcases h2' with h2' | ⟨e2, h2'⟩
      · exact .inl (by omega)
      · exact .inl (by omega)
    · rcases h2' with h2' | ⟨e2, h2'⟩
      · exact .inl (by omega)
      · exact .inr ⟨by omega, lt_tr r s t h1' h2'⟩
theorem lt_tot : ∀ a b : List Nat, ltCps a b = false → ltCps b a = false → a = b
  | [], [], _, _ => rfl
  | [], _ :: _, h, _ => by cases h
  | _ :: _, [], _, h => by cases h
  | x :: r, y :: s, h1, h2 => by
    have h1' : (decide (x < y) || (x == y && ltCps r s)) = false := h1
    have h2' : (decide (y < x) || (y == x && ltCps s r)) = false := h2
    simp only [Bool.or_eq_false_iff, Bool.and_eq_false_iff, decide_eq_false_iff_not, beq_eq_false_iff_ne] at h1' h2'
    have e : x = y := by omega
    subst e
    rw [lt_tot r s (h1'.2.resolve_left fun z => z rfl) (h2'.2.resolve_left fun z => z rfl)]
theorem lt_iff : ∀ a b : List Nat, ltCps a b = true ↔ a < b
  | [], [] => by simp [ltCps]
  | [], y :: s => by simp [ltCps]
  | x :: r, [] => by simp [ltCps]
  | x :: r, y :: s => by
    show (decide (x < y) || (x == y && ltCps r s)) = true ↔ _
    rw [List.cons_lt_cons_iff]
    simp only [Bool.or_eq_true, Bool.and_eq_true, decide_eq_true_eq, beq_iff_eq]
    rw [lt_iff r s]
/-- one text ahead of another -/
def lS (a b : Str) : Prop := ltCps a.cps.toList b.cps.toList = true
theorem lS.irr (a : Str) : ¬ lS a a := fun h => by
  unfold lS at h
  rw [lt_irr] at h
  cases h
theorem lS.tr {a b c : Str} (h : lS a b) (k : lS b c) : lS a c := lt_tr _ _ _ h k
theorem lS.tot (a b : Str) : lS a b ∨ a = b ∨ lS b a := by
  unfold lS
  cases h : ltCps a.cps.toList b.cps.toList with
  | true => exact .inl rfl
  | false =>
    cases k : ltCps b.cps.toList a.cps.toList with
    | true => exact .inr (.inr rfl)
    | false => exact .inr (.inl (ext_toList (lt_tot _ _ h k)))
theorem lS.dec {a b : Str} (h : lS a b) : decide (a.cps.toList < b.cps.toList) = true := decide_eq_true ((lt_iff _ _).mp h)
/-- ascending, no repeats -/
def Srt (l : List Str) : Prop := l.Pairwise lS
theorem Srt.nd {l : List Str} (h : Srt l) : l.Nodup := by
  refine List.Pairwise.imp (R := lS) (S := fun a b => a ≠ b) (fun {a b} h e => ?_) h
  rw [e] at h
  exact lS.irr b h
theorem risingS_ge : ∀ (l : List Str) (p : Str), risingS p l = true → ∀ x ∈ l, ¬ lS x p ∧ sortedS l = true
  | [], _, _, x, hx => by simp at hx
  | y :: r, p, h, x, hx => by
    have h' : (!ltCps y.cps.toList p.cps.toList && risingS y r) = true := h
    obtain ⟨h1, h2⟩ := Bool.and_eq_true_iff.mp h'
    have h1' : ¬ lS y p := by
      intro z
      unfold lS at z
      rw [z] at h1
      cases h1
    refine ⟨?_, h2⟩
    rcases List.mem_cons.mp hx with e | e
    · rw [e]; exact h1'
    · have q := (risingS_ge r y h2 x e).1
      intro z
      rcases lS.tot y x with c | c | c
      · exact h1' (c.tr z)
      · exact h1' (c ▸ z)
      · exact q c
theorem srt_of : ∀ {l : List Str}, sortedS l = true → l.Nodup → Srt l
  | [], _, _ => List.Pairwise.nil
  | p :: l, h, n => by
    obtain ⟨n1, n2⟩ := List.nodup_cons.mp n
    have h' : risingS p l = true := h
    refine List.pairwise_cons.mpr ⟨fun x hx => ?_, srt_of ?_ n2⟩
    · rcases lS.tot p x with c | c | c
      · exact c
      · exact absurd (c ▸ hx) n1
      · exact absurd c (risingS_ge l p h' x hx).1
    · cases l with
      | nil => rfl
      | cons y r => exact (risingS_ge (y :: r) p h' y List.mem_cons_self).2
theorem Srt.uniq : ∀ {l m : List Str}, Srt l → Srt m → (∀ x, x ∈ l ↔ x ∈ m) → l = m
  | [], [], _, _, _ => rfl
  | [], y :: m, _, _, h => by
    have := (h y).mpr List.mem_cons_self
    simp at this
  | x :: l, [], _, _, h => by
    have := (h x).mp List.mem_cons_self
    simp at this
  | x :: l, y :: m, hl, hm, h => by
    obtain ⟨l1, l2⟩ := List.pairwise_cons.mp hl
    obtain ⟨m1, m2⟩ := List.pairwise_cons.mp hm
    have e : x = y := by
      rcases List.mem_cons.mp ((h x).mp List.mem_cons_self) with e | e
      · exact e
      · rcases List.mem_cons.mp ((h y).mpr List.mem_cons_self) with e' | e'
        · exact e'.symm
        · exact absurd ((m1 x e).tr (l1 y e')) (lS.irr y)
    subst e
    have nx : ∀ z, lS x z → z ≠ x := fun z hz e => lS.irr x (by rw [e] at hz; exact hz)
    rw [Srt.uniq l2 m2 fun z => ?_]
    constructor
    · intro hz
      rcases List.mem_cons.mp ((h z).mp (List.mem_cons_of_mem _ hz)) with q | q
      · exact absurd q (nx z (l1 z hz))
      · exact q
    · intro hz
      rcases List.mem_cons.mp ((h z).mpr (List.mem_cons_of_mem _ hz)) with q | q
      · exact absurd q (nx z (m1 z hz))
      · exact q
/-- sorted in plain Lean -/
def insS (x : Str) : List Str → List Str
  | [] => [x]
  | y :: l => if ltCps y.cps.toList x.cps.toList = true then y :: insS x l else x :: y :: l
def srt : List Str → List Str
  | [] => []
  | x :: l => insS x (srt l)
theorem mem_insS {x z : Str} : ∀ {l : List Str}, z ∈ insS x l ↔ z = x ∨ z ∈ l
  | [] => by simp [insS]
  | y :: l => by
    unfold insS
    split
    · rw [List.mem_cons, mem_insS, List.mem_cons]
      constructor
      · rintro (h | h | h)
        · exact .inr (.inl h)
        · exact .inl h
        · exact .inr (.inr h)
      · rintro (h | h | h)
        · exact .inr (.inl h)
        · exact .inl h
        · exact .inr (.inr h)
    · rw [List.mem_cons]
theorem mem_srt {z : Str} : ∀ {l : List Str}, z ∈ srt l ↔ z ∈ l
  | [] => by simp [srt]
  | x :: l => by
    show z ∈ insS x (srt l) ↔ _
    rw [mem_insS, mem_srt, List.mem_cons]
theorem srt_ins {x : Str} : ∀ {l : List Str}, Srt l → x ∉ l → Srt (insS x l)
  | [], _, _ => by
    unfold insS Srt
    exact List.pairwise_singleton _ _
  | y :: l, h, n => by
    obtain ⟨h1, h2⟩ := List.pairwise_cons.mp h
    unfold insS
    split
    · rename_i c
      refine List.pairwise_cons.mpr ⟨fun z hz => ?_, srt_ins h2 fun m => n (List.mem_cons_of_mem _ m)⟩
      rcases mem_insS.mp hz with q | q
      · rw [q]; exact c
      · exact h1 z q
    · rename_i c
      have xy : lS x y := by
        rcases lS.tot x y with q | q | q
        · exact q
        · exact absurd (q ▸ List.mem_cons_self) n
        · exact absurd q c
      refine List.pairwise_cons.mpr ⟨fun z hz => ?_, h⟩
      rcases List.mem_cons.mp hz with q | q
      · rw [q]; exact xy
      · exact xy.tr (h1 z q)
theorem srt_srt : ∀ {l : List Str}, l.Nodup → Srt (srt l)
  | [], _ => List.Pairwise.nil
  | x :: l, h => by
    obtain ⟨h1, h2⟩ := List.nodup_cons.mp h
    exact srt_ins (srt_srt h2) fun m => h1 (mem_srt.mp m)
theorem srt_eq {l m : List Str} (hn : l.Nodup) (h : Srt m) (e : ∀ x, x ∈ m ↔ x ∈ l) : m = srt l := h.uniq (srt_srt hn) fun x => (e x).trans mem_srt.symm
/-- what sorted gives of texts without repeats -/
theorem sorted_is {l ys : List Str} (hn : l.Nodup) (p : ys.Perm l) (s : sortedS ys = true) : ys = srt l := srt_eq hn (srt_of s (p.nodup_iff.mpr hn)) fun x => p.mem_iff
theorem srt_filter {l : List Str} (hn : l.Nodup) (p : Str → Bool) : srt (l.filter p) = (srt l).filter p := by
  refine Eq.symm (srt_eq (hn.filter p) ((srt_srt hn).filter p) fun x => ?_)
  rw [List.mem_filter, List.mem_filter, mem_srt]
theorem srt_len {l : List Str} (hn : l.Nodup) : (srt l).length = l.length :=
  Nat.le_antisymm (len_le_of_sub (srt_srt hn).nd fun x h => mem_srt.mp h) (len_le_of_sub hn fun x h => mem_srt.mpr h)
end GF

/- DShort -/
set_option Elab.async false
set_option linter.all false
set_option maxRecDepth 100000
set_option maxHeartbeats 4000000
namespace GF
open PySem PySem.Spec PyProof.Rows L2 GR
def addS (l : List Str) (x : Str) : List Str := if x ∈ l then l else l ++ [x]
theorem mem_addS {l : List Str} {x y : Str} : y ∈ addS l x ↔ y = x ∨ y ∈ l := by
  unfold addS
  by_cases c : x ∈ l
  · rw [if_pos c]
    constructor
    · exact .inr
    · rintro (e | e)
      · rw [e]; exact c
      · exact e
  · rw [if_neg c]
    simp
    exact Or.comm
theorem nd_addS {l : List Str} {x : Str} (h : l.Nodup) : (addS l x).Nodup := by
  unfold addS
  by_cases c : x ∈ l
  · rw [if_pos c]; exact h
  · rw [if_neg c]; exact GR.nd_snoc h c
theorem put_addS {l : List Str} {x : Str} : put (mkB l) x true = mkB (addS l x) := by
  unfold addS
  by_cases c : x ∈ l
  · rw [if_pos c, put_old true (by rw [keys_mkB]; exact c)]
    unfold mkB
    rw [List.map_map]
    apply List.map_congr_left
    intro y _
    show (if y = x then (y, true) else (y, true)) = (y, true)
    split <;> rfl
  · rw [if_neg c]; exact put_mkB c
theorem map_get {α : Type} {f : α → V} {l : List α} {i : Nat} {y : V} (h : (l.map f)[i]? = some y) : ∃ x, l[i]? = some x ∧ y = f x := by
  rw [List.getElem?_map] at h
  cases e : l[i]? with
  | none => rw [e] at h; cases h
  | some x => rw [e] at h; exact ⟨x, rfl, (Option.some.inj h).symm⟩
theorem mp_keys {β : Type} {h : β → V} (l : List (Str × β)) : (mp ks h l).map (fun kv => kV kv.1) = (keys l).map V.str := by
  unfold mp keys
  rw [List.map_map, List.map_map]
  rfl
def spTakers (K : PySem.W.Frag) : Sp := fun vs H Q _ => ∃ (r l : Addr) (gs ps lot : List Str) (ad : Str → Addr) (rw_ : Str → List Str), vs = [.ref r, .ref l] ∧ RowsAt H r gs ad rw_ ∧ Tab gs ps rw_ ∧ SqL K H l (lot.map V.str) ∧ (∀ g, g ∈ lot → g ∈ gs) ∧
  ∀ H' p ts, Same H H' → H p = none → H' p = some (.lst (ts.map V.str)) → Srt ts → (∀ t, t ∈ ts ↔ ∃ g, g ∈ lot ∧ t ∈ rw_ g) → Q (.ref p) H'
abbrev nTakers : List Str := ["rows", "givers", "found", "giver", "taker"]
theorem scTakers : FnScope nTakers ["rows", "givers"] dTakersOf.scope := ⟨rfl, rfl, rfl, by decide +kernel, rfl, by decide +kernel, by decide +kernel⟩
section
variable {P : Program} {w : World} {K : PySem.W.Frag} {mg : Str → Option Value} {base : Heap}
theorem ok_takers (T : Tx K mg) : Ok P w K mg base CX0 1 dTakersOf ["rows", "givers"] (spTakers K) := by
  refine Ok.mk0 T _ ixTakersOf scTakers (fun _ _ _ _ _ _ us hl => match us, hl with | [_, _], _ => rfl) (fun vs H Q E h => ?_) (fun f cdv A outer st H vs Q E hr h => ?_)
  · obtain ⟨r, l, gs, ps, lot, ad, rw_, rfl, _⟩ := h
    rfl
  · have hu := hu_of hr
    obtain ⟨r, l, gs, ps, lot, ad, rw_, rfl, R, Tb, hL, hsub, k⟩ := h
    refine ⟨_, pss_cons (ps_set (i := 2) scTakers.nd rfl (.inl rfl) pe_dnewK)
      (pss_cons (ps_for PassesOwn.never rfl (pi_list (pv 1)) (pg_name (i := 3) scTakers.nd rfl (.inl rfl))
        (pss_one (ps_for PassesOwn.never rfl (pi_list (pe_dget hu (pv 0) (pv 3) (fun _ _ => rfl))) (pg_name (i := 4) scTakers.nd rfl (.inl rfl))
          (pss_one (ps_dput hu (pv 2) (pv 4) pe_bl rfl)))))
      (pss_one (ps_ret (pe_callB cr_sortedS (by rfl) T.f_sorted (by decide +kernel) (pa_cons (pe_callTy (call_listD rfl) (by rfl) T.f_list (by decide +kernel) (pa_cons (pv 2) pa_nil)) pa_nil))))), ?_⟩
    intro d hd
    have hsubp : ∀ seen : List Str, seen.Nodup → (∀ t, t ∈ seen → t ∈ ps) → seen.length ≤ 24 := fun seen n s => Nat.le_trans (len_le_of_sub n s) Tb.few
    refine ⟨_, rfl, l, rfl, ⟨_, (Same.new hd).seq hL⟩, for_w (Wk.list (xs := lot.map V.str)) (fun i σ H' => ∃ (v w : Option V) (seen : List Str), σ = [some (.ref r), some (.ref l), some (.ref d), v, w] ∧ Same H H' ∧ H' d = some (dB seen) ∧ seen.Nodup ∧
        ∀ t, t ∈ seen ↔ ∃ g, g ∈ lot.take i ∧ t ∈ rw_ g)
      ⟨none, none, [], rfl, Same.new hd, upd_same, by simp, by simp⟩ (fun i σ H' _ ⟨v, w, seen, _, s, _⟩ => s.seq hL) ?_ ?_⟩
    · rintro i x σ H' H'' hi ⟨v, w, seen, rfl, s, dh, nd, mem⟩ ⟨rfl, hx⟩
      obtain ⟨g, hg, rfl⟩ := map_get hx
      have gl : g ∈ lot := List.mem_of_getElem? hg
      have gin := hsub g gl
      have R1 := R.same s
      refine ⟨_, rfl, _, rfl, r, _, rfl, R1.get gin, ad g, rfl, ⟨_, R1.seq gin⟩, ?_⟩
      refine for_w (Wk.list (xs := (rw_ g).map V.str)) (fun j σ H' => ∃ (w : Option V) (seen : List Str), σ = [some (.ref r), some (.ref l), some (.ref d), some (.str g), w] ∧ Same H H' ∧ H' d = some (dB seen) ∧ seen.Nodup ∧
          ∀ t, t ∈ seen ↔ (∃ g, g ∈ lot.take i ∧ t ∈ rw_ g) ∨ t ∈ (rw_ g).take j)
        ⟨w, seen, rfl, s, dh, nd, fun t => by rw [mem t]; simp⟩ (fun i σ H' _ ⟨w, seen, _, s, _⟩ => (R.same s).seq gin) ?_ ?_
      · rintro j y σ H1 H1' hj ⟨w, seen, rfl, s1, d1, n1, m1⟩ ⟨rfl, hy⟩
        obtain ⟨t, ht, rfl⟩ := map_get hy
        have few := hsubp seen n1 fun u hu => by
          rcases (m1 u).mp hu with ⟨g', hg', q⟩ | q
          · exact Tb.sub g' u (hsub g' (List.mem_of_mem_take hg')) q
          · exact Tb.sub g u gin (List.mem_of_mem_take q)
        refine ⟨_, rfl, _, rfl, d, _, rfl, dput_s d1 t true (by rw [mkB_len]; exact sz1000 (by omega)), ?_⟩
        refine ⟨_, addS seen t, rfl, Same.mut s1 hd, by rw [upd_same, put_addS], nd_addS n1, fun u => ?_⟩
        rw [mem_addS, m1 u, take_snoc ht, List.mem_append, List.mem_singleton]
        constructor
        · rintro (q | q | q)
          · exact .inr (.inr q)
          · exact .inl q
          · exact .inr (.inl q)
        · rintro (q | q | q)
          · exact .inr (.inl q)
          · exact .inr (.inr q)
          · exact .inl q
      · rintro σ H1 ⟨w, seen, rfl, s1, d1, n1, m1⟩
        refine ⟨_, _, seen, rfl, s1, d1, n1, fun u => ?_⟩
        rw [m1 u, List.length_map, List.take_length, take_snoc hg]
        constructor
        · rintro (⟨g', q1, q2⟩ | q)
          · exact ⟨g', List.mem_append_left _ q1, q2⟩
          · exact ⟨g, List.mem_append_right _ (List.mem_singleton.mpr rfl), q⟩
        · rintro ⟨g', q1, q2⟩
          rcases List.mem_append.mp q1 with q | q
          · exact .inl ⟨g', q, q2⟩
          · rw [List.mem_singleton.mp q] at q2
            exact .inr q2
    · rintro σ H' ⟨v, w, seen, rfl, s, dh, nd, mem⟩
      rw [List.length_map, List.take_length] at mem
      have few := hsubp seen nd fun u hu => by
        obtain ⟨g', hg', q⟩ := (mem u).mp hu
        exact Tb.sub g' u (hsub g' hg') q
      refine ⟨_, rfl, d, _, rfl, .inl dh, fun p0 hp0 => ?_⟩
      refine ⟨p0, seen, rfl, SqL.of (by rw [upd_same, mp_keys, keys_mkB]), by omega, fun ys p pm so hp => ?_⟩
      have e := sorted_is nd pm so
      subst e
      have s2 := Same.new' (o := .lst ((mp ks V.bl (mkB seen)).map fun kv => kV kv.1)) s hp0
      refine k _ p _ (Same.new' s2 hp) (s2.free hp) upd_same (srt_srt nd) fun t => ?_
      rw [mem_srt, mem t]
end
/-- a lot with too few takers; None where a full pairing is there -/
def spShort : Sp := fun vs H Q _ => ∃ (r : Addr) (gs ps : List Str) (ad : Str → Addr) (rw_ : Str → List Str), vs = [.ref r] ∧ RowsU H r gs ad rw_ ∧ Tab gs ps rw_ ∧
  (∀ H' p lot nb, Same H H' → H p = none → H' p = some (.lst (lot.map V.str)) → Srt lot → Hall gs rw_ lot nb → Q (.ref p) H') ∧ (∀ H' f, Same H H' → PM gs rw_ f → Q .non H')
abbrev nShort : List Str := ["rows", "held", "giver", "seen", "taker"]
theorem scShort : FnScope nShort ["rows"] dShortLot.scope := ⟨rfl, rfl, rfl, by decide +kernel, rfl, by decide +kernel, by decide +kernel⟩
theorem lot_srt {gs : List Str} {rw_ : Str → List Str} {lot nb : List Str} (h : Hall gs rw_ lot nb) : Hall gs rw_ (srt lot) nb :=
  ⟨(srt_srt h.nd).nd, fun g hg => h.sub g (mem_srt.mp hg), fun g t hg ht => h.cover g t (mem_srt.mp hg) ht, by rw [srt_len h.nd]; exact h.few⟩
section
variable {P : Program} {w : World} {K : PySem.W.Frag} {mg : Str → Option Value} {base : Heap}
theorem ok_short (T : Tx K mg) : Ok P w K mg base CX0 26 dShortLot ["rows"] spShort := by
  have S := ok_seek (P := P) (w := w) (base := base) T 25
  refine Ok.mk0 T _ ixShortLot scShort (fun _ _ _ _ _ _ us hl => match us, hl with | [_], _ => rfl) (fun vs H Q E h => ?_) (fun f cdv A outer st H vs Q E hr h => ?_)
  · obtain ⟨r, gs, ps, ad, rw_, rfl, _⟩ := h
    rfl
  · have hu := hu_of hr
    obtain ⟨r, gs, ps, ad, rw_, rfl, R, Tb, kS, kN⟩ := h
    refine ⟨_, pss_cons (ps_set (i := 1) scShort.nd rfl (.inr rfl) pe_dnewK)
      (pss_cons (ps_lock (ps_for PassesOwn.never rfl (pi_keys (pv 0)) (pg_name (i := 2) scShort.nd rfl (.inl rfl))
        (pss_cons (ps_set (i := 3) scShort.nd rfl (.inl rfl) pe_dnewK)
        (pss_one (ps_if (pt_not (pt_val (pc S hr (Nat.le_refl _) T.g_seek pass0 (pa_cons (pv 0) (pa_cons (pv 2) (pa_cons (pv 1) (pa_cons (pv 3) pa_nil)))))))
          (pss_one (ps_ret (pe_callB cr_sortedS (by rfl) T.f_sorted (by decide +kernel) (pa_cons (pe_op op_cat (pe_lst (pa_cons (pv 2) pa_nil))
            (pe_lock (pe_lc (own := [("taker", 4)]) (g := gName 4) (tt := tYes) rfl scShort.nd (pi_keys (pv 3)) (blkOk_by (N := nShort) (sc := dShortLot.scope) (by decide +kernel)) (fun _ _ _ _ _ => pg_name (i := 4) scShort.nd rfl (.inl rfl)) (fun _ _ _ _ _ => pts_nil)
              (fun _ _ _ _ _ => pe_dget hu (pv 1) (pv 4) (fun _ _ => rfl))))) pa_nil)))) pss_nil)))))
      (pss_one (ps_ret pe_non))), ?_⟩
    intro h0 hh0
    have R1 := R.same (Same.new (o := .dK []) hh0)
    have rh : r ≠ h0 := ne_of_none R.dk hh0
    refine ⟨r, _, R1.dk, trivial, fun od => ?_⟩
    have frz : (upd (upd H h0 (.dK [])) r (.frz od (.dK (mp ks V.ref (gs.map fun g => (g, ad g)))))) r = some (.frz od (.dK (mp ks V.ref (gs.map fun g => (g, ad g))))) := upd_same
    have fh : (upd (upd H h0 (.dK [])) r (.frz od (.dK (mp ks V.ref (gs.map fun g => (g, ad g)))))) h0 = some (dS []) := by rw [upd_ne (Ne.symm rh)]; exact upd_same
    refine ⟨_, rfl, r, od, rfl, .inl ⟨_, frz, ?_⟩⟩
    refine for_w Wk.keys (fun i σ H' => ∃ (v w : Option V) (held : List (Str × Str)), σ = [some (.ref r), some (.ref h0), v, w, none] ∧ PairI (upd H r (.frz od (.dK (mp ks V.ref (gs.map fun g => (g, ad g)))))) H' r h0 gs ps ad rw_ i held)
      ⟨none, none, [], rfl, ⟨fun b o e => ?_, fh, Held.nil⟩⟩ (fun i σ H' _ ⟨v, w, held, _, I⟩ => I.same _ _ upd_same) ?_ ?_
    · by_cases c : b = r
      · subst c; rw [upd_same] at e ⊢; exact e
      · rw [upd_ne c] at e ⊢
        rw [upd_ne (ne_of_none e hh0)]
        exact e
    · rintro i x σ H' H'' hi ⟨v, w, held, rfl, I⟩ ⟨rfl, p, hp, rfl⟩
      obtain ⟨g, hg, rfl⟩ : ∃ g, gs[i]? = some g ∧ p = (g, ad g) := by
        rw [List.getElem?_map] at hp
        cases e : gs[i]? with
        | none => rw [e] at hp; cases hp
        | some g => rw [e] at hp; exact ⟨g, rfl, (Option.some.inj hp).symm⟩
      have gin : g ∈ gs := List.mem_of_getElem? hg
      have tk : gs.take (i + 1) = gs.take i ++ [g] := take_snoc hg
      have gno : g ∉ gs.take i := not_mem_take Tb.nd hg
      intro s0 hs0
      refine ⟨_, rfl, _, rfl, _, rfl, _, rfl, ?_⟩
      have Ra : RowsAt (upd H'' s0 (.dK [])) r gs ad rw_ := (R.at.lq (Lq.lock od R.dk trivial)).same (Same.new' I.same hs0)
      refine ⟨r, h0, s0, g, gs, ps, ad, rw_, held, [], rfl, ⟨Ra, Tb.sub, by have := Tb.few; omega, by rw [upd_ne (ne_of_none I.hh hs0)]; exact I.hh, upd_same, rh, ne_of_none (I.same _ _ upd_same) hs0, ne_of_none I.hh hs0, I.hl.nd, by simp, I.hl.val,
        fun t x e => List.mem_of_mem_take ((I.hl.rng x).mp ⟨t, e⟩), by simp⟩, gin, I.hl.sk gno, left_lt_few Tb.few [], ?_, ?_⟩
      · intro H2 held2 seen2 b2 I2 t2 _
        refine ⟨true, rfl, ?_⟩
        refine ⟨_, _, held2, rfl, fun b o e => ?_, I2.hh, by rw [tk]; exact I.hl.next I2.nd t2 I2.val⟩
        have e1 := I.same _ _ e
        refine b2 _ _ (fun m => ?_) (by rw [upd_ne (ne_of_none e1 hs0)]; exact e1)
        rcases List.mem_cons.mp m with q | q
        · rw [q, upd_ne (Ne.symm rh), hh0] at e
          cases e
        · rw [List.mem_singleton.mp q, hs0] at e1
          cases e1
      · intro H2 seen2 b2 I2 f2
        refine ⟨false, rfl, ?_⟩
        have s2 : Same (upd H r (.frz od (.dK (mp ks V.ref (gs.map fun g => (g, ad g)))))) H2 := fun b o e => by
          have e1 := I.same _ _ e
          refine b2 _ _ (fun m => ?_) (by rw [upd_ne (ne_of_none e1 hs0)]; exact e1)
          rcases List.mem_cons.mp m with q | q
          · rw [q, upd_ne (Ne.symm rh), hh0] at e
            cases e
          · rw [List.mem_singleton.mp q, hs0] at e1
            cases e1
        have ha : Hall gs rw_ (lotOf g held seen2) seen2 := I.hl.hall gno (fun x hx => by
          rcases hx with q | q
          · exact List.mem_of_mem_take q
          · rw [q]; exact gin) f2 I2.ns
        have few : seen2.length ≤ 24 := Nat.le_trans (len_le_of_sub I2.ns I2.sp) Tb.few
        have get : ∀ t, t ∈ seen2 → ∃ x, gt held t = some x := fun t ht => by
          rcases f2.cl t ht with q | ⟨x, e, _⟩
          · simp at q
          · exact ⟨x, e⟩
        -- [giver] + [held[taker] for taker in seen]
        refine ⟨_, rfl, sz1000' (by show 1 ≤ 100000; decide), fun l1 hl1 => ?_⟩
        have hs3 : (upd H2 l1 (.lst [V.str g])) s0 = some (dB seen2) := by rw [upd_ne (ne_of_none I2.hs hl1)]; exact I2.hs
        have hh3 : (upd H2 l1 (.lst [V.str g])) h0 = some (dS held) := by rw [upd_ne (ne_of_none I2.hh hl1)]; exact I2.hh
        have s3 : Same (upd H r (.frz od (.dK (mp ks V.ref (gs.map fun g => (g, ad g)))))) (upd H2 l1 (.lst [V.str g])) := Same.new' s2 hl1
        have l13 : (upd H2 l1 (.lst [V.str g])) l1 = some (.lst [V.str g]) := upd_same
        generalize upd H2 l1 (.lst [V.str g]) = H3 at hs3 hh3 s3 l13 ⊢
        refine ⟨s0, _, hs3, trivial, fun od2 => ⟨_, rfl, s0, od2, rfl, .inl ⟨_, upd_same, fun D hD => ?_⟩⟩⟩
        have Ds : D ≠ s0 := fun e => by rw [e, upd_same] at hD; cases hD
        have hD3 : H3 D = none := by rw [upd_ne Ds] at hD; exact hD
        refine lc_w (Wk.keys (l := mkB seen2)) (fun j H' => Same (upd H3 s0 (.frz od2 (dB seen2))) H' ∧ H' D = some (.lst (((seen2.take j).filterMap (gt held)).map V.str))) ⟨Same.new hD, upd_same⟩ (fun j H' _ p => p.1 _ _ upd_same) ?_ ?_
        · rintro j x H4 H4' hj ⟨s4, d4⟩ ⟨rfl, p, hp, rfl⟩
          obtain ⟨t, ht, ep⟩ : ∃ t, seen2[j]? = some t ∧ p = (t, true) := by
            unfold mkB at hp
            rw [List.getElem?_map] at hp
            cases e : seen2[j]? with
            | none => rw [e] at hp; cases hp
            | some t => rw [e] at hp; exact ⟨t, rfl, (Option.some.inj hp).symm⟩
          subst ep
          obtain ⟨x, ex⟩ := get t (List.mem_of_getElem? ht)
          have hh4 : H4' h0 = some (dS held) := s4 _ _ (by rw [upd_ne I2.ne]; exact hh3)
          have q := dget_s (l := held) (h := V.str) (.inl hh4) t
          rw [ex] at q
          refine ⟨rfl, yesT ?_⟩
          refine ⟨_, rfl, _, rfl, h0, _, rfl, q, _, d4, ?_, Same.mut s4 (by rw [upd_ne Ds]; exact hD3), ?_⟩
          · rw [List.length_map]
            have h1 := List.length_filterMap_le (gt held) (seen2.take j)
            have h2 : (seen2.take j).length ≤ seen2.length := by rw [List.length_take]; omega
            exact sz1000 (by omega)
          · rw [upd_same, take_snoc ht, List.filterMap_append, List.map_append]
            simp [ex]
        · rintro H4 ⟨s4, d4⟩
          rw [mkB_len, List.take_length] at d4
          refine ⟨s4 _ _ upd_same, ?_⟩
          have s5 : Same H3 (upd H4 s0 (dB seen2)) := Same.unlock hs3 s4
          have d5 : (upd H4 s0 (dB seen2)) D = some (.lst ((seen2.filterMap (gt held)).map V.str)) := by rw [upd_ne Ds]; exact d4
          have lf : (seen2.filterMap (gt held)).length ≤ seen2.length := List.length_filterMap_le _ _
          generalize upd H4 s0 (dB seen2) = H5 at s5 d5 ⊢
          refine ⟨l1, D, _, _, rfl, rfl, s5 _ _ l13, d5, ?_, fun p hp => ?_⟩
          · rw [List.length_map]
            exact sz1000' (by simp; omega)
          refine ⟨p, lotOf g held seen2, rfl, SqL.of (by rw [upd_same]; rfl), ?_, fun ys p2 pm so hp2 => ?_⟩
          · unfold lotOf
            rw [List.length_cons]
            omega
          have e := sorted_is ha.nd pm so
          subst e
          have s6 := Same.new' (o := .lst ([V.str g] ++ (seen2.filterMap (gt held)).map V.str)) (s3.trans s5) hp
          have s7 := Same.new' (o := .lst ((srt (lotOf g held seen2)).map V.str)) s6 hp2
          refine ⟨s7 _ _ upd_same, ?_⟩
          have hp2r : p2 ≠ r := fun e => by
            have := s6 r _ upd_same
            rw [e] at hp2
            rw [hp2] at this
            cases this
          refine kS _ p2 _ seen2 (Same.unlock R.dk s7) ?_ (by rw [upd_ne hp2r, upd_same]) (srt_srt ha.nd) (lot_srt ha)
          have := s6.free hp2
          rw [upd_ne hp2r] at this
          exact this
    · rintro σ H' ⟨v, w, held, rfl, I⟩
      rw [List.length_map] at I
      have hl : Held gs rw_ held := by have := I.hl; rw [List.take_length] at this; exact this
      refine ⟨I.same _ _ upd_same, kN _ (fun g => (gt (invOf held) g).getD "") (Same.unlock R.dk I.same) (hl.pm _ fun g hg => ?_)⟩
      obtain ⟨t, et⟩ := (hl.rng g).mpr hg
      rw [(invOf_get held hl.nd hl.inj g t).mpr et]
      exact et
end
end GF

/- GRules -/
set_option Elab.async false
set_option linter.all false
set_option maxRecDepth 100000
set_option maxHeartbeats 4000000
/-! Rules that the layer lacks: enumerate of a tuple, in by an own method. -/
namespace GF
open PySem PySem.Spec PyProof.Rows L2
/-! ### enumerate(tuple) -/
theorem meets_enum1 {v : Value} {o : Obj} {H : Heap → Prop} (B : Begins v o H) :
    Meets (Builtin.«enumerate.__new__» ⟨[.type "enumerate", v], []⟩) (fun _ R s => H s.heap ∧
      R (.ok (.ret (.ref (s.heap.push o).objs.size))) { s with heap := (s.heap.push o).push { cls := .type "enumerate", data := .fields #[.none, .bool false, .ref s.heap.objs.size, rawInt 0, .none, .none] } }) :=
  .of_wp fun prog w A R s h => by
    obtain ⟨hp, g, d, tk, os⟩ := s
    obtain ⟨h1, h⟩ := h
    have hsub := sub_enumerate
    have q1 : ∀ {A' : Around} {E : Value → Shared → Prop} {Q : Value → Shared → Prop}, Q (.ref hp.objs.size) ⟨hp.push o, g, d, tk, os⟩ → wpAny (model prog w) A' (pyIter v) Q E ⟨hp, g, d, tk, os⟩ :=
      fun q => B.iter prog w _ _ ⟨hp, g, d, tk, os⟩ _ h1 q
    wp_walk using q1
    refine wpAny_stack_any fun st => wpAny_pure ?_
    split
    · rename_i c _ _ _ _ _
      cases (c == Value.type "enumerate")
      · wp_walk using q1
        exact ⟨_, rfl, h⟩
      · wp_walk using q1
        exact ⟨_, rfl, h⟩
    · wp_walk using q1
      exact ⟨_, rfl, h⟩
theorem enum1_begins {prog : Program} {w : World} {A : Around} {E : Value → Shared → Prop} {s : Shared} {v : Value} {o : Obj} {H : Heap → Prop} {Q : Value → Shared → Prop} (B : Begins v o H) (h1 : H s.heap)
    (h : ∀ h', IsEnum h' (s.heap.objs.size + 1) s.heap.objs.size 0 .none → h'.get? s.heap.objs.size = some o → (∀ b o, s.heap.get? b = some o → h'.get? b = some o) → Q (.ref (s.heap.objs.size + 1)) { s with heap := h' }) :
    wpAny (model prog w) A (call (.type "enumerate") [v]) Q E s := by
  refine callType_new F.called_enumerate (by decide) (F.typeCall_enumerate_1 _) (F.newCall_enumerate_1 _) (fun obj => F.args_object_init_2 obj _) F.entry_enumerate_new (meets_enum1 B) ⟨h1, ?_⟩
  have hz : (s.heap.push o).objs.size = s.heap.objs.size + 1 := Heap.size_push ..
  show _ ∧ _
  rw [hz]
  have he : IsEnum ((s.heap.push o).push { cls := .type "enumerate", data := .fields #[.none, .bool false, .ref s.heap.objs.size, rawInt 0, .none, .none] }) (s.heap.objs.size + 1) s.heap.objs.size 0 .none := by
    have := Heap.get?_push_size (s.heap.push o) (o := { cls := .type "enumerate", data := .fields #[.none, .bool false, .ref s.heap.objs.size, rawInt 0, .none, .none] }) rfl
    rw [hz] at this
    exact this
  exact ⟨⟨_, he, rfl⟩, h _ he (Heap.get?_push_of_some _ (Heap.get?_push_size _ B.free)) fun b o x => Heap.get?_push_of_some _ (Heap.get?_push_of_some _ x)⟩
/-- the tuple at a, each item in a new pair -/
def IteT (K : PySem.W.Frag) (a : Addr) : It :=
  ⟨fun i H => ∃ (xs : List V) (x : V), SqT K H a xs ∧ xs[i]? = some x, fun i H v H' => ∃ T x, v = .ref T ∧ H T = none ∧ H' = upd H T (.tup [.int (i : Nat), x]) ∧ ∀ xs, SqT K H a xs → xs[i]? = some x, fun i H => ∃ xs : List V, SqT K H a xs ∧ xs.length ≤ i⟩
theorem turn_enumT {P : Program} {w : World} {K : PySem.W.Frag} {elts : List Expr} {kk : Nat} {tpos : Pos} (a e it : Addr) :
    Turn P w K (.Tuple elts kk tpos) (IteT K a) [e, it] e (fun i h => (∃ old, IsEnum h e it ((i : Nat) : Int) old) ∧ h.IsTupleIter it a i ∧ e ≠ it) where
  mem := by simp
  obj := fun i h st b hb => by
    obtain ⟨⟨old, he⟩, ⟨o, ho, hc, hd⟩, _⟩ := st
    rcases List.mem_cons.mp hb with z | z
    · refine ⟨_, by rw [z]; exact he, fun v q => ?_⟩
      have q' : Data.fields _ = Data.cell v := q
      cases q'
    · exact ⟨o, by rw [List.mem_singleton.mp z]; exact ho, fun v q => by rw [hd] at q; cases q⟩
  keep := fun i h h' st k => by
    obtain ⟨⟨old, he⟩, hi, hne⟩ := st
    exact ⟨⟨old, k e (by simp) _ he⟩, hi.at fun o q => k it (by simp) o q, hne⟩
  item := by
    intro X hP hw hK hc i pins s σ H E I hf st hg
    subst hP hw hK
    obtain ⟨⟨old, he⟩, hit, hne⟩ := st
    obtain ⟨xs, x, hq, hx⟩ := hg
    obtain ⟨its, rv, p, hz⟩ := I.tuple hq
    obtain ⟨u, hu, ru⟩ := rv.get hx
    have hel : e < s.heap.objs.size := Heap.lt_size he
    have hil : it < s.heap.objs.size := by
      obtain ⟨_, q, _⟩ := hit
      exact Heap.lt_size q
    have hai : a ≠ it := fun z => by
      obtain ⟨o1, e1, c1, _⟩ := p
      obtain ⟨o2, e2, c2, _⟩ := hit
      rw [z, e2] at e1
      cases e1
      rw [c2] at c1
      exact absurd c1 (by decide)
    have hae : e ∉ [it, a] := fun m => by
      rcases List.mem_cons.mp m with z | z
      · exact hne z
      · have z' := List.mem_singleton.mp z
        obtain ⟨o1, e1, c1, _⟩ := p
        rw [← z', he] at e1
        cases e1
        have c2 : Value.type "enumerate" = Value.type "tuple" := c1
        exact absurd c2 (by decide)
    have D := Draws.tuple (prog := X.prog) (w := X.w) (A := X.A.in1) (by have := I.ok.hd hc; simpa [Around.in1] using this) it a hai its.toArray
    have hlt : i < its.toArray.size := by
      have := (List.getElem?_eq_some_iff.mp hu).1
      simpa using this
    refine wpAny_pyNext_enum_itemD D he ⟨hit, p⟩ hlt hne hae fun y h' tk hy ho hst' hT hsz hk => ?_
    have ey : y = u := by
      have z : its.toArray[i]? = some u := by simpa using hu
      rw [z] at hy
      exact (Option.some.inj hy).symm
    subst ey
    refine ⟨_, rfl, wpAny_letOwnedTupleGo_enum (s := { s with heap := h', toks := tk + 1 }) ho fun h2 he' sb => ?_⟩
    have hT2 : h2.get? s.heap.objs.size = some { cls := .type "tuple", data := .seq #[.int i tk, y] } := (sb.2 _ (Nat.ne_of_gt hel)).trans hT
    have new : ObjOk X.prog X.w (upd H s.heap.objs.size (.tup [.int (i : Nat), x])) h2 s.heap.objs.size (.tup [.int (i : Nat), x]) :=
      ⟨by show 2 ≤ sizeLine; decide, [.int i tk, y], .cons ⟨_, rfl⟩ (.cons ru .nil), ⟨_, hT2, rfl, _, rfl⟩⟩
    have I1 : Inv X pins σ (upd H s.heap.objs.size (.tup [.int (i : Nat), x])) { s with heap := h2, toks := tk + 1 } :=
      I.turnedNew (ch := [e, it]) (fun b ob hb q => (sb.2 b (fun z => hb (by simp [z]))).trans (hk b ob (fun z => hb (by simp [z])) (fun z => hb (by simp [z])) q)) hf (Nat.le_refl _) new
    refine ⟨.ref s.heap.objs.size, _, I1, rfl, ⟨_, x, rfl, I.hok.fresh (Nat.le_refl _), rfl, fun ys hy => by rw [I.tuple_inj hy hq]; exact hx⟩, ⟨⟨y, ?_⟩, hst'.1.at fun o q => (sb.2 it (Ne.symm hne)).trans q, hne⟩, fun b hb => ?_⟩
    · have e1 : ((i + 1 : Nat) : Int) = (i : Int) + 1 := by omega
      rw [e1]
      exact he'
    · have hb' : b < s.heap.objs.size := by
        rcases List.mem_cons.mp hb with z | z
        · rw [z]; exact hel
        · rw [List.mem_singleton.mp z]; exact hil
      rw [upd_ne (Nat.ne_of_lt hb')]
      exact (hf b hb).1
  done := by
    intro X hP hw hK hc i pins s σ H E I hf st hg
    subst hP hw hK
    obtain ⟨⟨old, he⟩, hit, hne⟩ := st
    obtain ⟨xs, hq, hx⟩ := hg
    obtain ⟨its, rv, p, hz⟩ := I.tuple hq
    obtain ⟨f0, f1, f2, f3, f4, f5⟩ := hf it (by simp)
    have hl := rv.length
    have hT : s.TypeIs (.ref e) "enumerate" := ⟨_, he, rfl⟩
    unfold pyNext
    refine wpAny_bind (wpAny_attempt (wpAny_callSpecial?_slot (name := Str.ofString "__next__") hT F.slot_enumerate_next (wpAny_call_entry F.slot_enumerate_next hT F.entry_enumerate_next ?_ (F.args_enumerate_next_1 _))))
    show wpAny _ _ (field (.ref e) 2 >>= _) _ _ _
    refine wpAny_bind (wpAny_field he rfl (x := .ref it) rfl ?_)
    refine wpAny_bind (wpAny_nextOf_tuple_end (by have := I.ok.hd hc; simpa [Around.in1] using this) hit p (by simp; omega) fun h' x he' hx' => ?_)
    obtain ⟨o, ho, hc'⟩ := hx'
    refine wpAny_bind (wpAny_isInstance (T := "StopIteration") (b := true) ⟨o, ho, hc'⟩ isSubtype_stop ?_)
    exact wpAny_pure ⟨rfl, I.turned (t' := s.toks) (fun b o hb q => he' b o hb q) f0 f1 f3 f4 f5⟩
  self := fun A i s Q E st h => by
    obtain ⟨⟨_, he⟩, _⟩ := st
    exact wpAny_pyIter_enum he h
def iEnumT (K : PySem.W.Frag) (ta : TA) : TI := fun σ H R => ta σ H fun vs H1 => ∃ a xs, vs = [.ref a] ∧ SqT K H1 a xs ∧ R (IteT K a) H1
theorem pi_enumT {X : Cx} {e : Expr} {ta : TA} {p pos tpos : Pos} {elts : List Expr} {kk : Nat} (hg : Gl X "enumerate") (hm : X.mg "enumerate" = none) (ha : PA X [e] ta) (hs : starEach [e] X.env = [(false, eval e X.env)] := by rfl) :
    PI X (.Tuple elts kk tpos) (.Call (.Name "enumerate" p) [e] [] pos) (iEnumT X.K ta) := by
  refine ⟨fun pins s σ H R I h => ?_⟩
  refine Call_ (ld_blt I hg hm boot_enumerate (PyProof.Rows.callWith_type1 (thn (ha.run pos pins s σ H _ I h) fun us s1 ⟨vs, H1, I1, r1, q1⟩ => ?_) hs rfl))
  obtain ⟨a, xs, ex, hq, q⟩ := q1
  subst ex
  cases r1 with
  | cons r rr =>
    cases rr
    cases r
    obtain ⟨its, rv, p', hz⟩ := I1.tuple hq
    refine enum1_begins (begins_tuple a its.toArray) p' fun h' he hit hk => wpAny_pyIter_enum he ?_
    have I2 : Inv X pins σ H1 { s1 with heap := h' } := I1.kept (t' := s1.toks) hk
    refine ⟨s1.heap.objs.size + 1, [s1.heap.objs.size + 1, s1.heap.objs.size], _, _, H1, rfl, I2, turn_enumT a (s1.heap.objs.size + 1) s1.heap.objs.size, ⟨⟨.none, he⟩, ⟨_, hit, rfl, rfl⟩, Nat.succ_ne_self _⟩, fun b hb => ?_, q⟩
    have hle : s1.heap.objs.size ≤ b := by
      rcases List.mem_cons.mp hb with z | z
      · rw [z]; exact Nat.le_add_right _ _
      · rw [List.mem_singleton.mp z]; exact Nat.le_refl _
    exact I1.fpOk hle (I1.hok.fresh hle)
theorem Wk.enumT {K : PySem.W.Frag} {a : Addr} {xs : List V} : Wk (IteT K a) xs.length (fun H => SqT K H a xs) (fun i v H H' => ∃ T x, v = .ref T ∧ H T = none ∧ H' = upd H T (.tup [.int (i : Nat), x]) ∧ xs[i]? = some x) :=
  ⟨fun i H h k => ⟨xs, xs[i], k, by simp [h]⟩, fun H k => ⟨xs, k, Nat.le_refl _⟩, fun i H x H' k ⟨T, y, e, n, e', q⟩ => ⟨T, y, e, n, e', q xs k⟩⟩
end GF

/- GRulesB -/
set_option Elab.async false
set_option linter.all false
set_option maxRecDepth 100000
set_option maxHeartbeats 4000000
/-! in, not in by an own __contains__. -/
namespace GF
open PySem PySem.Spec PyProof.Rows L2
theorem contains_K {prog : Program} {w : World} {A : Around} {E : Value → Shared → Prop} {s : Shared} {K : PySem.W.Frag} {x C f : Addr} {ox : Obj} {od : Option Obj} {b : Value} {Q : Bool → Shared → Prop} (X : K.In s.heap) (I : PySem.W.InstAt s.heap x ox C od)
    (hs : PySem.W.findIn K (.ref C) "__contains__" = some (some (.ref f))) (hf : PySem.W.isFn K (.ref f) = true)
    (h : wpAny (model prog w) A (call (.ref f) [.ref x, b]) (fun v s' => ∃ r, v = .bool r ∧ Q r s') E s) : wpAny (model prog w) A (contains (.ref x) b) Q E s := by
  unfold contains
  refine wpAny_holding ?_
  show wpAny _ _ (specialOf (.ref x) (Str.ofString "__contains__") >>= _) _ _ _
  refine wpAny_bind (wpAny_bind (I.type.here ((PySem.W.looks_findIn X hs).here ?_)))
  have e0 : (some (Value.ref f) == some Value.none) = false := rfl
  rw [if_neg (by rw [e0]; exact Bool.false_ne_true)]
  show wpAny _ _ (callSpecialUnlessNone? (.ref x) (Str.ofString "__contains__") [b] _ >>= _) _ _ _
  refine wpAny_bind ?_
  unfold callSpecialUnlessNone?
  refine wpAny_bind (wpAny_bind (I.type.here ((PySem.W.looks_findIn X hs).here ?_)))
  refine wpAny_holding ?_
  refine wpAny_bind ((PySem.W.bind_fn X _ (beq_iff_eq.mp hf)).here ?_)
  have e1 : (Value.ref f == Value.none) = false := rfl
  refine wpAny_ite_split (fun z => by rw [e1] at z; cases z) fun _ => ?_
  refine wpAny_bind (wpAny_mono h (fun v s' q => ?_) fun _ _ z => z)
  obtain ⟨r, rfl, q⟩ := q
  exact wpAny_pure (wpAny_truthy_bool q)
/-- x in o, o an instance of the class at C whose __contains__ keeps sp and gives a truth value -/
def rInO (C : Addr) (sp : Sp) (E : XK) (neg : Bool) : R2 := fun x y H Q => ∃ a dx fs, y = .ref a ∧ H a = some (.ins C dx fs) ∧ sp [.ref a, x] H (fun v H' => ∃ r, v = .bl r ∧ Q (.bl (if neg then !r else r)) H') E
section
variable {X : Cx} {CX : CXT} {n : Nat} {C f : Addr} {fd : FuncData} {ps : List Str} {sp : Sp} {E : XK}
theorem run_in {pins : List (Addr × Obj)} {s : Shared} {σ : L2.St} {H : Hp} {a dx : Addr} {fs : List (Str × V)} {x : V} {u : Value} {Q : Bool → Shared → Prop} {R : Bool → Hp → Prop} (F : FnOk X.prog X.w X.K X.mg X.base CX n f fd ps sp) (hr : Room n X.A)
    (hs : PySem.W.findIn X.K (.ref C) "__contains__" = some (some (.ref f))) (hf : PySem.W.isFn X.K (.ref f) = true) (hb : Binds X.K fd ps []) (hx : Passes CX X E) (I : Inv X pins σ H s) (ha : H a = some (.ins C dx fs)) (rx : RelV x u)
    (h : sp [.ref a, x] H (fun v H' => ∃ r, v = .bl r ∧ R r H') E) (k : ∀ r s' H', Inv X pins σ H' s' → R r H' → Q r s') : wpAny (model X.prog X.w) X.A (contains (.ref a) u) Q X.xe s := by
  obtain ⟨mA, J, _⟩ := ins_get I.hok ha
  obtain ⟨od, J, _⟩ := J.look
  refine contains_K I.kIn J hs hf ?_
  refine thn (run_fn (us := [.ref a, u]) F hr hb .nil hx I (.cons (show RelV (V.ref a) (Value.ref a) from rfl) (.cons rx .nil)) (by rw [List.append_nil]; exact h)) fun v s' hq => ?_
  obtain ⟨z, H', I', rz, r, ez, q⟩ := hq
  subst ez
  cases rz
  exact ⟨r, rfl, k r s' H' I' q⟩
theorem op_inO (F : FnOk X.prog X.w X.K X.mg X.base CX n f fd ps sp) (hr : Room n X.A) (hs : PySem.W.findIn X.K (.ref C) "__contains__" = some (some (.ref f))) (hf : PySem.W.isFn X.K (.ref f) = true) (hb : Binds X.K fd ps []) (hx : Passes CX X E) :
    OpR X (compareOp .In) (rInO C sp E false) := by
  intro pins s σ H x y v u Q I rx ry hq
  obtain ⟨a, dx, fs, rfl, ha, h⟩ := hq
  cases ry
  show wpAny _ _ (contains (.ref a) v >>= fun r => pure (Value.bool r)) _ _ _
  exact wpAny_bind (run_in F hr hs hf hb hx I ha rx h fun r s' H' I' q => wpAny_pure ⟨.bl r, H', I', rfl, q⟩)
theorem op_notInO (F : FnOk X.prog X.w X.K X.mg X.base CX n f fd ps sp) (hr : Room n X.A) (hs : PySem.W.findIn X.K (.ref C) "__contains__" = some (some (.ref f))) (hf : PySem.W.isFn X.K (.ref f) = true) (hb : Binds X.K fd ps []) (hx : Passes CX X E) :
    OpR X (compareOp .NotIn) (rInO C sp E true) := by
  intro pins s σ H x y v u Q I rx ry hq
  obtain ⟨a, dx, fs, rfl, ha, h⟩ := hq
  cases ry
  show wpAny _ _ (contains (.ref a) v >>= fun r => pure (Value.bool (!r))) _ _ _
  exact wpAny_bind (run_in F hr hs hf hb hx I ha rx h fun r s' H' I' q => wpAny_pure ⟨.bl (!r), H', I', rfl, q⟩)
end
end GF

/- DName -/
set_option Elab.async false
set_option linter.all false
set_option maxRecDepth 100000
set_option maxHeartbeats 4000000
namespace GF
open PySem PySem.Spec PyProof.Rows L2 GR
abbrev letters : Str := "abcdefghijklmnopqrstuvwxyz"
structure NameOk (x : Str) : Prop where
  lo : 1 ≤ x.length
  hi : x.length ≤ 8
  ls : ∀ c, c ∈ x.cps.toList → c ∈ letters.cps.toList
theorem inV_strs {x : Str} {xs : List Str} : inV (.str x) (xs.map V.str) = decide (x ∈ xs) := by
  unfold inV
  rw [List.any_map]
  by_cases h : x ∈ xs
  · rw [decide_eq_true h, List.any_eq_true]
    exact ⟨x, h, by show (x == x) = true; simp⟩
  · rw [decide_eq_false h, List.any_eq_false]
    intro y hy e
    have e' : (y == x) = true := e
    exact h (beq_iff_eq.mp e' ▸ hy)
theorem flat_strs (xs : List Str) : (xs.map V.str).all flatV = true := by
  rw [List.all_map, List.all_eq_true]
  intro x _
  rfl
theorem isi_go {K : PySem.W.Frag} {x : V} {A B : String} {b : Bool} {H : Hp} {Q : VK} (ty : TyX K H x (.type A)) (e : kitB A B = some b) (q : Q (.bl b) H) : rIsi K [x, .ty B] H Q := ⟨x, _, _, _, b, rfl, .ty B, ty, kit_ty e, q⟩
theorem tyS {K : PySem.W.Frag} {H : Hp} (x : Str) : TyX K H (.str x) (.type "str") := .base (.str x)
theorem tyT {K : PySem.W.Frag} {H : Hp} {a : Addr} {xs : List V} (h : SqT K H a xs) : TyX K H (.ref a) (.type "tuple") := by
  rcases h with (h | ⟨o, h⟩) | ⟨o, its, n, h, c, _⟩
  · exact .base (.tup h)
  · exact .fTuple h
  · exact .kTuple h c
theorem tyL {K : PySem.W.Frag} {H : Hp} {a : Addr} {xs : List V} (h : SqL K H a xs) : TyX K H (.ref a) (.type "list") := by
  rcases h with (h | ⟨o, h⟩) | ⟨o, its, n, h, c, _⟩
  · exact .base (.lst h)
  · exact .base (.frz h)
  · exact .kList h c
theorem _root_.L2.SqT.sameT {K : PySem.W.Frag} {H H' : Hp} {a : Addr} {xs : List V} (h : SqT K H a xs) (e : Same H H') : SqT K H' a xs := SqT.ext h e
def spName : Sp := fun vs H Q _ => ∃ x : Str, vs = [.str x] ∧ NameOk x ∧ Q (.bl true) H
abbrev nName : List Str := ["value", "sign"]
theorem scName : FnScope nName ["value"] dIsName.scope := ⟨rfl, rfl, rfl, by decide +kernel, rfl, by decide +kernel, by decide +kernel⟩
def spPerson (K : PySem.W.Frag) : Sp := fun vs H Q _ => ∃ (p : Addr) (ps : List Str) (x : Str), vs = [.ref p, .str x] ∧ SqT K H p (ps.map V.str) ∧ Q (.bl (decide (x ∈ ps))) H
abbrev nPerson : List Str := ["people", "value"]
theorem scPerson : FnScope nPerson ["people", "value"] dIsPerson.scope := ⟨rfl, rfl, rfl, by decide +kernel, rfl, by decide +kernel, by decide +kernel⟩
def spDiff (K : PySem.W.Frag) : Sp := fun vs H Q _ => ∃ (p t : Addr) (ps xs : List Str), vs = [.ref p, .ref t] ∧ SqT K H p (ps.map V.str) ∧ SqT K H t (xs.map V.str) ∧ ∀ H', Same H H' → Q (.bl (decide (xs.Nodup ∧ ∀ x, x ∈ xs → x ∈ ps))) H'
abbrev nDiff : List Str := ["people", "values", "index", "value"]
theorem scDiff : FnScope nDiff ["people", "values"] dAreDifferent.scope := ⟨rfl, rfl, rfl, by decide +kernel, rfl, by decide +kernel, by decide +kernel⟩
def spPair (K : PySem.W.Frag) : Sp := fun vs H Q _ => ∃ (p t : Addr) (ps : List Str) (a b : Str), vs = [.ref p, .ref t] ∧ SqT K H p (ps.map V.str) ∧ SqT K H t [.str a, .str b] ∧ ∀ H', Same H H' → Q (.bl (decide (a ≠ b ∧ a ∈ ps ∧ b ∈ ps))) H'
abbrev nPair : List Str := ["people", "value"]
theorem scPair : FnScope nPair ["people", "value"] dIsPair.scope := ⟨rfl, rfl, rfl, by decide +kernel, rfl, by decide +kernel, by decide +kernel⟩
theorem cutV_to {xs : List V} {k : Nat} (h : k ≤ xs.length) : cutV xs none (some (k : Int)) = xs.take k := by
  unfold cutV
  rw [HT.sIx_none, HT.sIx_nat, Nat.min_eq_left h]
  rfl
/-- the first items are different people, the next is not one more -/
theorem diff_no {xs ps : List Str} {i : Nat} {x : Str} (hx : xs[i]? = some x) (h : x ∉ ps ∨ x ∈ xs.take i) : ¬ (xs.Nodup ∧ ∀ x, x ∈ xs → x ∈ ps) := fun ⟨n, s⟩ => by
  rcases h with h | h
  · exact h (s x (List.mem_of_getElem? hx))
  · exact not_mem_take n hx h
theorem diff_step {xs ps : List Str} {i : Nat} {x : Str} (hx : xs[i]? = some x) (h : (xs.take i).Nodup ∧ ∀ x, x ∈ xs.take i → x ∈ ps) (hp : x ∈ ps) (hn : x ∉ xs.take i) : (xs.take (i + 1)).Nodup ∧ ∀ x, x ∈ xs.take (i + 1) → x ∈ ps := by
  rw [take_snoc hx]
  refine ⟨GR.nd_snoc h.1 hn, fun y hy => ?_⟩
  rcases List.mem_append.mp hy with q | q
  · exact h.2 y q
  · rw [List.mem_singleton.mp q]; exact hp
section
variable {P : Program} {w : World} {K : PySem.W.Frag} {mg : Str → Option Value} {base : Heap}
theorem ok_name (T : Tx K mg) : Ok P w K mg base CX0 1 dIsName ["value"] spName := by
  refine Ok.mk0 T _ ixIsName scName (fun _ _ _ _ _ _ us hl => match us, hl with | [_], _ => rfl) (fun vs H Q E h => ?_) (fun f cdv A outer st H vs Q E hr h => ?_)
  · obtain ⟨x, rfl, _⟩ := h
    rfl
  · obtain ⟨x, rfl, ok, k⟩ := h
    obtain ⟨tl, gl⟩ := T.s_LETTERS
    refine ⟨_, pss_cons (ps_if (PW.pt (pw_or (pt_not (pt_val (pe_callB call_isi (by rfl) T.f_isinstance (by decide +kernel) (pa_cons (pv 0) (pa_cons (pe_bltn (v := .ty "str") (by rfl) T.f_str (by decide +kernel) rfl) pa_nil)))))
          (pw_or1 (pt_not (pt_chain op_le op_le pe_int (pe_callB call_len (by rfl) T.f_len (by decide +kernel) (pa_cons (pv 0) pa_nil)) pe_int))))) (pss_one (ps_ret pe_bl)) pss_nil)
      (pss_cons (ps_for PassesOwn.never rfl (pi_str (pv 0)) (pg_name (i := 1) scName.nd rfl (.inl rfl))
        (pss_one (ps_if (pt_cmpR op_notIn_sign (pv 1) (pe_glob (v := .str letters) rfl gl ⟨_, rfl⟩) rfl) (pss_one (ps_ret pe_bl)) pss_nil)))
      (pss_one (ps_ret pe_bl))), ?_⟩
    have l1 : (1 : Int) ≤ (x.length : Int) := by have := ok.lo; omega
    have l2 : (x.length : Int) ≤ 8 := by have := ok.hi; omega
    refine ⟨_, rfl, _, _, _, _, true, rfl, .ty _, tyS x, kit_ty (by decide +kernel), true, rfl, iteF ?_⟩
    refine ⟨_, rfl, _, x.length, rfl, ⟨by have := ok.hi; rw [sizeLine_eq]; omega, rfl⟩, _, _, rfl, rfl, _, rfl, ?_⟩
    rw [decide_eq_true l1]
    refine iteT ⟨_, _, rfl, rfl, _, rfl, ?_⟩
    rw [decide_eq_true l2]
    refine iteF ⟨_, rfl, _, rfl, ?_⟩
    refine for_w Wk.str (fun i σ H' => H' = H ∧ ∃ v, σ = [some (.str x), v]) ⟨rfl, none, rfl⟩ (fun _ _ _ _ _ => trivial) ?_ ?_
    · rintro i y σ H' H'' hi ⟨rfl, v, rfl⟩ ⟨rfl, c, hc, rfl⟩
      have cin : c ∈ letters.cps.toList := ok.ls c (by rw [← Array.getElem?_toList] at hc; exact List.mem_of_getElem? hc)
      refine ⟨_, rfl, c, letters, rfl, rfl, _, rfl, ?_⟩
      rw [decide_eq_true cin]
      exact ⟨rfl, _, rfl⟩
    · rintro σ H' ⟨rfl, v, rfl⟩
      exact k
theorem ok_person (T : Tx K mg) : Ok P w K mg base CX0 1 dIsPerson ["people", "value"] (spPerson K) := by
  refine Ok.mk0 T _ ixIsPerson scPerson (fun _ _ _ _ _ _ us hl => match us, hl with | [_, _], _ => rfl) (fun vs H Q E h => ?_) (fun f cdv A outer st H vs Q E hr h => ?_)
  · obtain ⟨p, ps, x, rfl, _⟩ := h
    rfl
  · obtain ⟨p, ps, x, rfl, hp, k⟩ := h
    refine ⟨_, pss_one (ps_ret (pe_and (pe_callB call_isi (by rfl) T.f_isinstance (by decide +kernel) (pa_cons (pv 1) (pa_cons (pe_bltn (v := .ty "str") (by rfl) T.f_str (by decide +kernel) rfl) pa_nil)))
      (pe_one (pe_cmpR op_in_seq (pv 1) (pv 0) rfl)))), ?_⟩
    refine ⟨_, rfl, _, _, _, _, true, rfl, .ty _, tyS x, kit_ty (by decide +kernel), true, rfl, iteT ?_⟩
    refine ⟨_, rfl, _, rfl, p, _, rfl, .inr hp, rfl, flat_strs ps, ?_⟩
    rw [inV_strs]
    exact k
theorem ok_diff (T : Tx K mg) : Ok P w K mg base CX0 2 dAreDifferent ["people", "values"] (spDiff K) := by
  have S := ok_person (P := P) (w := w) (base := base) T
  refine Ok.mk0 T _ ixAreDifferent scDiff (fun _ _ _ _ _ _ us hl => match us, hl with | [_, _], _ => rfl) (fun vs H Q E h => ?_) (fun f cdv A outer st H vs Q E hr h => ?_)
  · obtain ⟨p, t, ps, xs, rfl, _⟩ := h
    rfl
  · obtain ⟨p, t, ps, xs, rfl, hp, ht, k⟩ := h
    refine ⟨_, pss_cons (ps_for PassesOwn.never rfl (pi_enumT (by rfl) T.f_enumerate (pa_cons (pv 1) pa_nil)) (pg_tup rfl (pgs_cons (pg_name (i := 2) scDiff.nd rfl (.inl rfl)) (pgs_cons (pg_name (i := 3) scDiff.nd rfl (.inl rfl)) pgs_nil)))
        (pss_one (ps_if (PW.pt (pw_or (pt_not (pt_val (pc S hr (Nat.le_refl _) T.g_is_person pass0 (pa_cons (pv 0) (pa_cons (pv 3) pa_nil))))) (pw_or1 (pt_cmpR op_in_seq (pv 3) (pe_slice sl_tupA (pv 1) po_none (po_some (pv 2))) rfl))))
          (pss_one (ps_ret pe_bl)) pss_nil)))
      (pss_one (ps_ret pe_bl)), ?_⟩
    refine ⟨_, rfl, t, _, rfl, ht, for_w (Wk.enumT (xs := xs.map V.str)) (fun i σ H' => ∃ v w, σ = [some (.ref p), some (.ref t), v, w] ∧ Same H H' ∧ (xs.take i).Nodup ∧ ∀ x, x ∈ xs.take i → x ∈ ps)
      ⟨none, none, rfl, Same.refl H, by simp, by simp⟩ (fun i σ H' _ ⟨v, w, _, s, _⟩ => ht.sameT s) ?_ ?_⟩
    · rintro i y σ H' H'' hi ⟨v, w, rfl, s, inv⟩ ⟨q, z, rfl, hq, rfl, hz⟩
      obtain ⟨x, hx, rfl⟩ := map_get hz
      have s1 : Same H (upd H' q (.tup [.int (i : Nat), .str x])) := Same.new' s hq
      refine ⟨q, _, rfl, SqT.of upd_same, rfl, _, _, rfl, _, _, rfl, rfl, ?_⟩
      refine ⟨_, rfl, _, rfl, p, ps, x, rfl, hp.sameT s1, _, rfl, ?_⟩
      by_cases c : x ∈ ps
      · rw [decide_eq_true c]
        refine iteF ⟨_, rfl, _, rfl, _, rfl, _, rfl, t, _, rfl, ht.sameT s1, ?_⟩
        have hi' : i ≤ (xs.map V.str).length := Nat.le_of_lt hi
        have go : ∀ (r : Addr) (H2 : Hp) (R : Bool → Hp → Prop), SqT K H2 r ((xs.take i).map V.str) → (x ∈ xs.take i → R true H2) → (x ∉ xs.take i → R false H2) → rIn K false (.str x) (.ref r) H2 (fun z H3 => ∃ k, z = .bl k ∧ R k H3) := fun r H2 R hr2 r1 r2 => by
          refine ⟨r, _, rfl, .inr hr2, rfl, flat_strs _, _, rfl, ?_⟩
          rw [inV_strs]
          by_cases d : x ∈ xs.take i
          · rw [decide_eq_true d]
            exact r1 d
          · rw [decide_eq_false d]
            exact r2 d
        have yes : x ∈ xs.take i → ∀ H2, Same (upd H' q (.tup [.int (i : Nat), .str x])) H2 → Q (.bl false) H2 := fun d H2 s2 => by
          have e := k H2 (s1.trans s2)
          rw [decide_eq_false (diff_no hx (.inr d))] at e
          exact e
        refine ⟨fun hw => go t _ _ ?_ (fun d => iteT (yes d _ (Same.refl _))) (fun d => iteF ⟨_, _, rfl, s1, diff_step hx inv c d⟩), fun hw r hr2 => go r _ _ (SqT.of ?_) (fun d => iteT (yes d _ (Same.new hr2))) (fun d => iteF ⟨_, _, rfl, Same.new' s1 hr2, diff_step hx inv c d⟩)⟩
        · have e : (xs.take i).map V.str = xs.map V.str := by
            have h2 := hw.2
            rw [HT.sIx_nat, Nat.min_eq_left hi'] at h2
            rw [List.length_map] at h2
            rw [h2, List.take_length]
          rw [e]
          exact ht.sameT s1
        · rw [upd_same, cutV_to hi', List.map_take]
      · rw [decide_eq_false c]
        refine iteT ?_
        have e := k _ s1
        rw [decide_eq_false (diff_no hx (.inl c))] at e
        exact e
    · rintro σ H' ⟨v, w, rfl, s, inv⟩
      rw [List.length_map, List.take_length] at inv
      have e := k H' s
      rw [decide_eq_true inv] at e
      exact e
theorem ok_pair (T : Tx K mg) : Ok P w K mg base CX0 3 dIsPair ["people", "value"] (spPair K) := by
  have S := ok_diff (P := P) (w := w) (base := base) T
  refine Ok.mk0 T _ ixIsPair scPair (fun _ _ _ _ _ _ us hl => match us, hl with | [_, _], _ => rfl) (fun vs H Q E h => ?_) (fun f cdv A outer st H vs Q E hr h => ?_)
  · obtain ⟨p, t, ps, a, b, rfl, _⟩ := h
    rfl
  · obtain ⟨p, t, ps, a, b, rfl, hp, ht, k⟩ := h
    refine ⟨_, pss_one (ps_ret (pe_and (pe_callB call_isi (by rfl) T.f_isinstance (by decide +kernel) (pa_cons (pv 1) (pa_cons (pe_bltn (v := .ty "tuple") (by rfl) T.f_tuple (by decide +kernel) rfl) pa_nil)))
      (pe_and (pe_cmpR op_eq (pe_callB call_len (by rfl) T.f_len (by decide +kernel) (pa_cons (pv 1) pa_nil)) pe_int (nomark _))
      (pe_one (pc S hr (Nat.le_refl _) T.g_are_different pass0 (pa_cons (pv 0) (pa_cons (pv 1) pa_nil))))))), ?_⟩
    refine ⟨_, rfl, _, _, _, _, true, rfl, .ty _, tyT ht, kit_ty (by decide +kernel), true, rfl, iteT ?_⟩
    refine ⟨_, rfl, _, 2, rfl, .inr ⟨_, ht, rfl⟩, rfl, true, rfl, iteT ?_⟩
    refine ⟨_, rfl, _, rfl, p, t, ps, [a, b], rfl, hp, ht, fun H' s => ?_⟩
    have e := k H' s
    have e2 : decide (a ≠ b ∧ a ∈ ps ∧ b ∈ ps) = decide (([a, b] : List Str).Nodup ∧ ∀ x, x ∈ [a, b] → x ∈ ps) := by
      apply decide_eq_decide.mpr
      simp
    rw [e2] at e
    exact e
end
end GF

/- GMore -/
set_option Elab.async false
set_option linter.all false
set_option maxRecDepth 100000
set_option maxHeartbeats 4000000
/-! Readings that are asked for often. -/
namespace GF
open PySem PySem.Spec PyProof.Rows L2 GR
section
variable {K : PySem.W.Frag} {H : Hp}
theorem in_strs {p : Addr} {xs : List Str} {x : Str} {Q : VK} (hp : SqL K H p (xs.map V.str) ∨ SqT K H p (xs.map V.str)) (q : Q (.bl (decide (x ∈ xs))) H) : rIn K false (.str x) (.ref p) H Q :=
  ⟨p, _, rfl, hp, rfl, flat_strs xs, by rw [inV_strs]; exact q⟩
theorem nin_strs {p : Addr} {xs : List Str} {x : Str} {Q : VK} (hp : SqL K H p (xs.map V.str) ∨ SqT K H p (xs.map V.str)) (q : Q (.bl (!decide (x ∈ xs))) H) : rIn K true (.str x) (.ref p) H Q :=
  ⟨p, _, rfl, hp, rfl, flat_strs xs, by rw [inV_strs]; exact q⟩
/-- x in t[:i] -/
theorem in_slice {t : Addr} {xs : List Str} {x : Str} {i : Nat} {Q : VK} (ht : SqT K H t (xs.map V.str)) (hi : i ≤ xs.length) (q : ∀ H2, Same H H2 → Q (.bl (decide (x ∈ xs.take i))) H2) :
    rSlA K (.ref t) none (some (i : Int)) H fun z H3 => rIn K false (.str x) z H3 Q := by
  have hi' : i ≤ (xs.map V.str).length := by rw [List.length_map]; exact hi
  refine ⟨t, _, rfl, ht, fun hw => in_strs (xs := xs.take i) (.inr ?_) (q _ (Same.refl _)), fun hw r hr => in_strs (xs := xs.take i) (.inr (SqT.of ?_)) (q _ (Same.new hr))⟩
  · have e : (xs.take i).map V.str = xs.map V.str := by
      have h2 := hw.2
      rw [HT.sIx_nat, Nat.min_eq_left hi'] at h2
      rw [List.length_map] at h2
      rw [h2, List.take_length]
    rw [e]
    exact ht
  · rw [upd_same, cutV_to hi', List.map_take]
def refs {α : Type} (qs : List (Addr × α)) : List V := qs.map fun q => V.ref q.1
theorem refs_len {α : Type} (qs : List (Addr × α)) : (refs qs).length = qs.length := List.length_map _
theorem refs_get {α : Type} {qs : List (Addr × α)} {i : Nat} {y : V} (h : (refs qs)[i]? = some y) : ∃ q, qs[i]? = some q ∧ y = .ref q.1 := map_get h
/-- pairs of texts, each in a tuple of its own -/
def PairsAt (H : Hp) (qs : List (Addr × (Str × Str))) : Prop := ∀ q, q ∈ qs → H q.1 = some (.tup [.str q.2.1, .str q.2.2])
theorem PairsAt.same {H' : Hp} {qs : List (Addr × (Str × Str))} (h : PairsAt H qs) (s : Same H H') : PairsAt H' qs := fun q m => s _ _ (h q m)
theorem PairsAt.lq {H' : Hp} {qs : List (Addr × (Str × Str))} (h : PairsAt H qs) (s : Lq H H') : PairsAt H' qs := fun q m => s.fx _ _ trivial (h q m)
end
end GF

/- DParty -/
set_option Elab.async false
set_option linter.all false
set_option maxRecDepth 100000
set_option maxHeartbeats 4000000
namespace GF
open PySem PySem.Spec PyProof.Rows L2 GR
structure PeopleOk (ps : List Str) : Prop where
  lo : 2 ≤ ps.length
  hi : ps.length ≤ 24
  nd : ps.Nodup
  nm : ∀ x, x ∈ ps → NameOk x
def spCPeople (K : PySem.W.Frag) : Sp := fun vs H Q _ => ∃ (p : Addr) (ps : List Str), vs = [.ref p] ∧ SqT K H p (ps.map V.str) ∧ PeopleOk ps ∧ ∀ H', Same H H' → Q .non H'
abbrev nCPeople : List Str := ["people", "index", "person"]
theorem scCPeople : FnScope nCPeople ["people"] dCheckPeople.scope := ⟨rfl, rfl, rfl, by decide +kernel, rfl, by decide +kernel, by decide +kernel⟩
/-- barred pairs: of different people -/
def BarOk (ps : List Str) (cl : List (Str × Str)) : Prop := ∀ q, q ∈ cl → q.1 ≠ q.2 ∧ q.1 ∈ ps ∧ q.2 ∈ ps
def spCPairs (K : PySem.W.Frag) : Sp := fun vs H Q _ => ∃ (p l : Addr) (ps : List Str) (qs : List (Addr × (Str × Str))), vs = [.ref p, .ref l] ∧ SqT K H p (ps.map V.str) ∧ SqL K H l (refs qs) ∧ PairsAt H qs ∧ qs.length ≤ 600 ∧
  BarOk ps (qs.map (·.2)) ∧ ∀ H', Same H H' → Q .non H'
abbrev nCPairs : List Str := ["people", "pairs", "index", "pair"]
theorem scCPairs : FnScope nCPairs ["people", "pairs"] dCheckPairs.scope := ⟨rfl, rfl, rfl, by decide +kernel, rfl, by decide +kernel, by decide +kernel⟩
def spCName (K : PySem.W.Frag) : Sp := fun vs H Q _ => ∃ (p : Addr) (ps : List Str) (x : Str), vs = [.ref p, .str x] ∧ SqT K H p (ps.map V.str) ∧ x ∈ ps ∧ Q .non H
abbrev nCName : List Str := ["people", "value"]
theorem scCName : FnScope nCName ["people", "value"] dCheckName.scope := ⟨rfl, rfl, rfl, by decide +kernel, rfl, by decide +kernel, by decide +kernel⟩
section
variable {P : Program} {w : World} {K : PySem.W.Frag} {mg : Str → Option Value} {base : Heap}
theorem ok_cpeople (T : Tx K mg) : Ok P w K mg base CX0 2 dCheckPeople ["people"] (spCPeople K) := by
  have S := ok_name (P := P) (w := w) (base := base) T
  refine Ok.mk0 T _ ixCheckPeople scCPeople (fun _ _ _ _ _ _ us hl => match us, hl with | [_], _ => rfl) (fun vs H Q E h => ?_) (fun f cdv A outer st H vs Q E hr h => ?_)
  · obtain ⟨p, ps, rfl, _⟩ := h
    rfl
  · obtain ⟨p, ps, rfl, hp, ok, k⟩ := h
    obtain ⟨tm, gm⟩ := T.i_MOST_PEOPLE
    refine ⟨_, pss_cons (ps_if (PW.pt (pw_or (pt_not (pt_val (pe_callB call_isi (by rfl) T.f_isinstance (by decide +kernel) (pa_cons (pv 0) (pa_cons (pe_bltn (v := .ty "tuple") (by rfl) T.f_tuple (by decide +kernel) rfl) pa_nil)))))
          (pw_or1 (pt_not (pt_chain op_le op_le pe_int (pe_callB call_len (by rfl) T.f_len (by decide +kernel) (pa_cons (pv 0) pa_nil)) (pe_glob (v := .int 24) rfl gm ⟨_, rfl⟩)))))) pss_never pss_nil)
      (pss_one (ps_for PassesOwn.never rfl (pi_enumT (by rfl) T.f_enumerate (pa_cons (pv 0) pa_nil)) (pg_tup rfl (pgs_cons (pg_name (i := 1) scCPeople.nd rfl (.inl rfl)) (pgs_cons (pg_name (i := 2) scCPeople.nd rfl (.inl rfl)) pgs_nil)))
        (pss_one (ps_if (PW.pt (pw_or (pt_not (pt_val (pc S hr (Nat.le_refl _) T.g_is_name pass0 (pa_cons (pv 2) pa_nil)))) (pw_or1 (pt_cmpR op_in_seq (pv 2) (pe_slice sl_tupA (pv 0) po_none (po_some (pv 1))) rfl)))) pss_never pss_nil)))), ?_⟩
    have l1 : (2 : Int) ≤ (ps.length : Int) := by have := ok.lo; omega
    have l2 : (ps.length : Int) ≤ 24 := by have := ok.hi; omega
    refine ⟨_, rfl, _, _, _, _, true, rfl, .ty _, tyT hp, kit_ty (by decide +kernel), true, rfl, iteF ?_⟩
    refine ⟨_, rfl, _, ps.length, rfl, .inr ⟨_, hp, by rw [List.length_map]⟩, _, _, rfl, rfl, _, rfl, ?_⟩
    rw [decide_eq_true l1]
    refine iteT ⟨_, _, rfl, rfl, _, rfl, ?_⟩
    rw [decide_eq_true l2]
    refine iteF ⟨_, rfl, p, _, rfl, hp, for_w (Wk.enumT (xs := ps.map V.str)) (fun i σ H' => ∃ v w, σ = [some (.ref p), v, w] ∧ Same H H') ⟨none, none, rfl, Same.refl H⟩ (fun i σ H' _ ⟨v, w, _, s⟩ => hp.sameT s) ?_ ?_⟩
    · rintro i y σ H' H'' hi ⟨v, w, rfl, s⟩ ⟨q, z, rfl, hq, rfl, hz⟩
      obtain ⟨x, hx, rfl⟩ := map_get hz
      have s1 : Same H (upd H' q (.tup [.int (i : Nat), .str x])) := Same.new' s hq
      refine ⟨q, _, rfl, SqT.of upd_same, rfl, _, _, rfl, _, _, rfl, rfl, ?_⟩
      refine ⟨_, rfl, x, rfl, ok.nm x (List.mem_of_getElem? hx), true, rfl, iteF ⟨_, rfl, _, rfl, _, rfl, _, rfl, ?_⟩⟩
      refine in_slice (hp.sameT s1) (by rw [List.length_map] at hi; omega) fun H2 s2 => ⟨_, rfl, ?_⟩
      rw [decide_eq_false (not_mem_take ok.nd hx)]
      exact ⟨_, _, rfl, s1.trans s2⟩
    · rintro σ H' ⟨v, w, rfl, s⟩
      exact k H' s
theorem ok_cpairs (T : Tx K mg) : Ok P w K mg base CX0 4 dCheckPairs ["people", "pairs"] (spCPairs K) := by
  have S := ok_pair (P := P) (w := w) (base := base) T
  refine Ok.mk0 T _ ixCheckPairs scCPairs (fun _ _ _ _ _ _ us hl => match us, hl with | [_, _], _ => rfl) (fun vs H Q E h => ?_) (fun f cdv A outer st H vs Q E hr h => ?_)
  · obtain ⟨p, l, ps, qs, rfl, _⟩ := h
    rfl
  · obtain ⟨p, l, ps, qs, rfl, hp, hl, hq, few, ok, k⟩ := h
    obtain ⟨tm, gm⟩ := T.i_MOST_BARRED
    refine ⟨_, pss_cons (ps_if (PW.pt (pw_or (pt_not (pt_val (pe_callB call_isi (by rfl) T.f_isinstance (by decide +kernel) (pa_cons (pv 1) (pa_cons (pe_bltn (v := .ty "list") (by rfl) T.f_list (by decide +kernel) rfl) pa_nil)))))
          (pw_or1 (pt_cmpR op_gt (pe_callB call_len (by rfl) T.f_len (by decide +kernel) (pa_cons (pv 1) pa_nil)) (pe_glob (v := .int 600) rfl gm ⟨_, rfl⟩) (nomark _))))) pss_never pss_nil)
      (pss_one (ps_for PassesOwn.never rfl (pi_enum (by rfl) T.f_enumerate (pa_cons (pv 1) pa_nil)) (pg_tup rfl (pgs_cons (pg_name (i := 2) scCPairs.nd rfl (.inl rfl)) (pgs_cons (pg_name (i := 3) scCPairs.nd rfl (.inl rfl)) pgs_nil)))
        (pss_one (ps_if (pt_not (pt_val (pc S hr (Nat.le_refl _) T.g_is_pair pass0 (pa_cons (pv 0) (pa_cons (pv 3) pa_nil))))) pss_never pss_nil)))), ?_⟩
    refine ⟨_, rfl, _, _, _, _, true, rfl, .ty _, tyL hl, kit_ty (by decide +kernel), true, rfl, iteF ?_⟩
    refine ⟨_, rfl, _, qs.length, rfl, .inl ⟨_, hl, (refs_len _).symm⟩, _, _, rfl, rfl, _, rfl, ?_⟩
    have l1 : ¬ (600 : Int) < (qs.length : Int) := by omega
    rw [decide_eq_false l1]
    refine ⟨_, rfl, l, _, rfl, hl, for_w (Wk.enum (xs := refs qs)) (fun i σ H' => ∃ v w, σ = [some (.ref p), some (.ref l), v, w] ∧ Same H H') ⟨none, none, rfl, Same.refl H⟩ (fun i σ H' _ ⟨v, w, _, s⟩ => s.seq hl) ?_ ?_⟩
    · rintro i y σ H' H'' hi ⟨v, w, rfl, s⟩ ⟨q, z, rfl, hq', rfl, hz⟩
      obtain ⟨x, hx, rfl⟩ := refs_get hz
      have s1 : Same H (upd H' q (.tup [.int (i : Nat), .ref x.1])) := Same.new' s hq'
      have hx' := List.mem_of_getElem? hx
      refine ⟨q, _, rfl, SqT.of upd_same, rfl, _, _, rfl, _, _, rfl, rfl, ?_⟩
      refine ⟨_, rfl, _, rfl, p, x.1, ps, x.2.1, x.2.2, rfl, hp.sameT s1, SqT.of (s1 _ _ (hq x hx')), fun H2 s2 => ⟨_, rfl, ?_⟩⟩
      rw [decide_eq_true (ok x.2 (List.mem_map.mpr ⟨x, hx', rfl⟩))]
      exact ⟨_, _, rfl, s1.trans s2⟩
    · rintro σ H' ⟨v, w, rfl, s⟩
      exact k H' s
theorem ok_cname (T : Tx K mg) : Ok P w K mg base CX0 2 dCheckName ["people", "value"] (spCName K) := by
  have S := ok_person (P := P) (w := w) (base := base) T
  refine Ok.mk0 T _ ixCheckName scCName (fun _ _ _ _ _ _ us hl => match us, hl with | [_, _], _ => rfl) (fun vs H Q E h => ?_) (fun f cdv A outer st H vs Q E hr h => ?_)
  · obtain ⟨p, ps, x, rfl, _⟩ := h
    rfl
  · obtain ⟨p, ps, x, rfl, hp, hx, k⟩ := h
    refine ⟨_, pss_one (ps_if (pt_not (pt_val (pc S hr (Nat.le_refl _) T.g_is_person pass0 (pa_cons (pv 0) (pa_cons (pv 1) pa_nil))))) pss_never pss_nil), ?_⟩
    refine ⟨_, rfl, _, rfl, p, ps, x, rfl, hp, _, rfl, ?_⟩
    rw [decide_eq_true hx]
    exact k
end
end GF

/- DPartyC -/
set_option Elab.async false
set_option linter.all false
set_option maxRecDepth 100000
set_option maxHeartbeats 4000000
namespace GF
open PySem PySem.Spec PyProof.Rows L2 GR
/-- the barred pairs as a dict -/
def clD (cl : List (Str × Str)) : List ((Str × Str) × Bool) := cl.foldl (fun acc q => put acc q true) []
theorem clD_snoc (l : List (Str × Str)) (q : Str × Str) : clD (l ++ [q]) = put (clD l) q true := by
  unfold clD
  rw [List.foldl_append]
  rfl
theorem clD_len : ∀ l : List (Str × Str), (clD l).length ≤ l.length := snoc_ind (by simp [clD]) fun l a ih => by
  rw [clD_snoc, List.length_append]
  have := put_len (clD l) a true
  simp
  omega
theorem clD_get : ∀ (l : List (Str × Str)) (q : Str × Str), (gt (clD l) q).isSome = decide (q ∈ l) := snoc_ind (fun q => by simp [clD, gt]) fun l a ih q => by
  rw [clD_snoc, gt_put]
  by_cases e : q = a
  · rw [if_pos e, e]
    simp
  · rw [if_neg e, ih q]
    simp [e]
/-- the fields of a party -/
def fsParty (p d : Addr) : List (Str × V) := putF "_closed" (.ref d) (putF "_people" (.ref p) [])
theorem fsParty_people (p d : Addr) : (fsParty p d).lookup ("_people" : Str) = some (V.ref p) := by
  unfold fsParty
  rw [lookup_putF, if_neg (by decide +kernel), lookup_putF, if_pos rfl]
theorem fsParty_closed (p d : Addr) : (fsParty p d).lookup ("_closed" : Str) = some (V.ref d) := by
  unfold fsParty
  rw [lookup_putF, if_pos rfl]
theorem fsParty_no (p d : Addr) {m : Str} (h1 : m ≠ "_closed") (h2 : m ≠ "_people") : (fsParty p d).lookup m = none := by
  unfold fsParty
  rw [lookup_putF, if_neg h1, lookup_putF, if_neg h2]
  rfl
structure PartyAt (K : PySem.W.Frag) (H : Hp) (x p : Addr) (ps : List Str) (cl : List (Str × Str)) : Prop where
  ins : ∃ d dx, H x = some (.ins (He.ga K "Party") dx (fsParty p d)) ∧ Rd H d (.dT (mp k2 V.bl (clD cl)))
  pt : SqT K H p (ps.map V.str)
theorem PartyAt.lq {K : PySem.W.Frag} {H H' : Hp} {x p : Addr} {ps : List Str} {cl : List (Str × Str)} (h : PartyAt K H x p ps cl) (l : Lq H H') : PartyAt K H' x p ps cl := by
  obtain ⟨⟨d, dx, h1, h2⟩, h3⟩ := h
  exact ⟨⟨d, dx, l.fx _ _ trivial h1, l.rd _ _ trivial h2⟩, l.sqT h3⟩
theorem PartyAt.same {K : PySem.W.Frag} {H H' : Hp} {x p : Addr} {ps : List Str} {cl : List (Str × Str)} (h : PartyAt K H x p ps cl) (s : Same H H') : PartyAt K H' x p ps cl := h.lq (Lq.of s)
/-- may g give to t -/
def mayB (cl : List (Str × Str)) (g t : Str) : Bool := decide (g ≠ t ∧ (g, t) ∉ cl)
def spPInit (K : PySem.W.Frag) : Sp := fun vs H Q _ => ∃ (x p l dx : Addr) (ps : List Str) (qs : List (Addr × (Str × Str))), vs = [.ref x, .ref p, .ref l] ∧ H x = some (.ins (He.ga K "Party") dx []) ∧ SqT K H p (ps.map V.str) ∧ PeopleOk ps ∧
  SqL K H l (refs qs) ∧ PairsAt H qs ∧ qs.length ≤ 600 ∧ BarOk ps (qs.map (·.2)) ∧ ∀ H', But [x] H H' → PartyAt K H' x p ps (qs.map (·.2)) → Q .non H'
abbrev nPInit : List Str := ["self", "people", "barred", "pair"]
theorem scPInit : FnScope nPInit ["self", "people", "barred"] dPartyInit.scope := ⟨rfl, rfl, rfl, by decide +kernel, rfl, by decide +kernel, by decide +kernel⟩
def spPPeople (K : PySem.W.Frag) : Sp := fun vs H Q _ => ∃ (x p : Addr) (ps : List Str) (cl : List (Str × Str)), vs = [.ref x] ∧ PartyAt K H x p ps cl ∧ Q (.ref p) H
abbrev nPPeople : List Str := ["self"]
theorem scPPeople : FnScope nPPeople ["self"] dPartyPeople.scope := ⟨rfl, rfl, rfl, by decide +kernel, rfl, by decide +kernel, by decide +kernel⟩
def spPCont (K : PySem.W.Frag) : Sp := fun vs H Q _ => ∃ (x p t : Addr) (ps : List Str) (cl : List (Str × Str)) (a b : Str), vs = [.ref x, .ref t] ∧ PartyAt K H x p ps cl ∧ H t = some (.tup [.str a, .str b]) ∧
  ∀ H', Same H H' → Q (.bl (decide (a ≠ b ∧ a ∈ ps ∧ b ∈ ps ∧ (a, b) ∉ cl))) H'
abbrev nPCont : List Str := ["self", "pair"]
theorem scPCont : FnScope nPCont ["self", "pair"] dPartyContains.scope := ⟨rfl, rfl, rfl, by decide +kernel, rfl, by decide +kernel, by decide +kernel⟩
def spPMay (K : PySem.W.Frag) : Sp := fun vs H Q _ => ∃ (x p : Addr) (ps : List Str) (cl : List (Str × Str)) (g : Str), vs = [.ref x, .str g] ∧ PartyAt K H x p ps cl ∧ PeopleOk ps ∧ g ∈ ps ∧
  ∀ H' q, Same H H' → H q = none → H' q = some (.lst (((srt ps).filter (mayB cl g)).map V.str)) → Q (.ref q) H'
abbrev nPMay : List Str := ["self", "giver", "taker"]
theorem scPMay : FnScope nPMay ["self", "giver"] dPartyMay.scope := ⟨rfl, rfl, rfl, by decide +kernel, rfl, by decide +kernel, by decide +kernel⟩
section
variable {P : Program} {w : World} {K : PySem.W.Frag} {mg : Str → Option Value} {base : Heap}
theorem ok_pinit (T : Tx K mg) : Ok P w K mg base CX0 5 dPartyInit ["self", "people", "barred"] (spPInit K) := by
  have S1 := ok_cpeople (P := P) (w := w) (base := base) T
  have S2 := ok_cpairs (P := P) (w := w) (base := base) T
  refine Ok.mk0 T _ ixPartyInit scPInit (fun _ _ _ _ _ _ us hl => match us, hl with | [_, _, _], _ => rfl) (fun vs H Q E h => ?_) (fun f cdv A outer st H vs Q E hr h => ?_)
  · obtain ⟨x, p, l, dx, ps, qs, rfl, _⟩ := h
    rfl
  · have hu := hu_of hr
    obtain ⟨x, p, l, dx, ps, qs, rfl, hx, hp, ok, hl, hq, few, bar, k⟩ := h
    refine ⟨_, pss_cons (ps_expr (pc S1 hr (by decide) T.g_check_people pass0 (pa_cons (pv 1) pa_nil)))
      (pss_cons (ps_expr (pc S2 hr (by decide) T.g_check_pairs pass0 (pa_cons (pv 1) (pa_cons (pv 2) pa_nil))))
      (pss_cons (ps_fld (pv 0) (pv 1) rfl)
      (pss_one (ps_fld (pv 0) (pe_dg (own := [("pair", 3)]) (o := .dT []) (g := gName 3) (tt := tYes) hu rfl scPInit.nd (pi_list (pv 2)) (blkOk_by (N := nPInit) (sc := dPartyInit.scope) (by decide +kernel))
          (fun _ _ _ _ _ => pg_name (i := 3) scPInit.nd rfl (.inl rfl)) (fun _ _ _ _ _ => pts_nil) (fun _ _ _ _ _ => pv 3) (fun _ _ _ _ _ => pe_bl)) rfl)))), ?_⟩
    refine ⟨_, rfl, p, ps, rfl, hp, ok, fun H1 s1 => ?_⟩
    refine ⟨_, rfl, _, rfl, p, l, ps, qs, rfl, hp.sameT s1, s1.seq hl, hq.same s1, few, bar, fun H2 s2 => ?_⟩
    have s := s1.trans s2
    refine ⟨_, rfl, _, rfl, x, _, dx, [], rfl, s _ _ hx, T.c_Party, T.n_Party_people, by decide, ?_⟩
    have b2 : But [x] H (upd H2 x (.ins (He.ga K "Party") dx (putF "_people" (.ref p) []))) := (But.of s).trans (But.at (by simp))
    have i2 : (upd H2 x (.ins (He.ga K "Party") dx (putF "_people" (.ref p) []))) x = some (.ins (He.ga K "Party") dx (putF "_people" (.ref p) [])) := upd_same
    generalize upd H2 x (.ins (He.ga K "Party") dx (putF "_people" (.ref p) [])) = H3 at b2 i2 ⊢
    have nx : ∀ {a : Addr} {u : HO}, H a = some u → (∀ C dx fs, u ≠ .ins C dx fs) → a ∉ [x] := fun {a u} e n m => by
      rw [List.mem_singleton.mp m, hx] at e
      cases e
      exact n _ _ _ rfl
    have hl3 : SqL K H3 l (refs qs) := by
      rcases hl with (hl | ⟨o, hl⟩) | hl
      · exact .inl (.inl (b2 _ _ (nx hl fun _ _ _ z => by cases z) hl))
      · exact .inl (.inr ⟨o, b2 _ _ (nx hl fun _ _ _ z => by cases z) hl⟩)
      · exact .inr hl
    have hp3 : SqT K H3 p (ps.map V.str) := by
      rcases hp with (hl | ⟨o, hl⟩) | hl
      · exact .inl (.inl (b2 _ _ (nx hl fun _ _ _ z => by cases z) hl))
      · exact .inl (.inr ⟨o, b2 _ _ (nx hl fun _ _ _ z => by cases z) hl⟩)
      · exact .inr hl
    have hq3 : PairsAt H3 qs := fun q m => b2 _ _ (nx (hq q m) fun _ _ _ z => by cases z) (hq q m)
    refine ⟨_, rfl, l, rfl, ⟨_, hl3⟩, fun D hD => ?_⟩
    refine turns_w (Wk.list (xs := refs qs)) (fun i H' => Same H3 H' ∧ H' D = some (.dT (mp k2 V.bl (clD ((qs.take i).map (·.2)))))) ⟨Same.new hD, upd_same⟩ (fun i H' _ p => p.1.seq hl3) ?_ ?_
    · rintro i y H4 H4' hi ⟨s4, d4⟩ ⟨rfl, hy⟩
      obtain ⟨q, hq', rfl⟩ := refs_get hy
      refine ⟨rfl, yesT ?_⟩
      refine ⟨_, rfl, _, dput_t d4 (s4 _ _ (hq3 q (List.mem_of_getElem? hq'))) true ?_, Same.mut s4 hD, ?_⟩
      · have h1 := clD_len ((qs.take i).map (·.2))
        rw [List.length_map, List.length_take] at h1
        exact sz1000 (by omega)
      · rw [upd_same, take_snoc hq', List.map_append, List.map_singleton, clD_snoc]
    · rintro H4 ⟨s4, d4⟩
      rw [refs_len, List.take_length] at d4
      refine ⟨_, rfl, x, _, dx, _, rfl, s4 _ _ i2, T.c_Party, T.n_Party_closed, ?_, ?_⟩
      · have := length_putF "_people" (.ref p) []
        simp at this
        omega
      have nD : D ≠ x := fun e => by rw [e, i2] at hD; cases hD
      refine k _ ((b2.trans (But.of s4)).trans (But.at (by simp))) ⟨⟨D, dx, upd_same, .inl (by rw [upd_ne nD]; exact d4)⟩, ?_⟩
      have np : ∀ {a : Addr} {u : HO}, H3 a = some u → (∀ C dx fs, u ≠ .ins C dx fs) → a ≠ x := fun {a u} e n m => by
        rw [m, i2] at e
        cases e
        exact n _ _ _ rfl
      rcases hp3 with (hl | ⟨o, hl⟩) | hl
      · exact .inl (.inl (by rw [upd_ne (np hl fun _ _ _ z => by cases z)]; exact s4 _ _ hl))
      · exact .inl (.inr ⟨o, by rw [upd_ne (np hl fun _ _ _ z => by cases z)]; exact s4 _ _ hl⟩)
      · exact .inr hl
theorem ok_ppeople (T : Tx K mg) : Ok P w K mg base CX0 1 dPartyPeople ["self"] (spPPeople K) := by
  refine Ok.mk0 T _ ixPartyPeople scPPeople (fun _ _ _ _ _ _ us hl => match us, hl with | [_], _ => rfl) (fun vs H Q E h => ?_) (fun f cdv A outer st H vs Q E hr h => ?_)
  · obtain ⟨x, p, ps, cl, rfl, _⟩ := h
    rfl
  · obtain ⟨x, p, ps, cl, rfl, ⟨⟨d, dx, hx, hd⟩, hp⟩, k⟩ := h
    refine ⟨_, pss_one (ps_ret (pe_fld (pv 0) rfl)), ?_⟩
    exact ⟨_, rfl, x, _, dx, _, _, rfl, hx, T.c_Party, T.n_Party_people, fsParty_people p d, k⟩
theorem ok_pcont (T : Tx K mg) : Ok P w K mg base CX0 4 dPartyContains ["self", "pair"] (spPCont K) := by
  have S := ok_pair (P := P) (w := w) (base := base) T
  refine Ok.mk0 T _ ixPartyContains scPCont (fun _ _ _ _ _ _ us hl => match us, hl with | [_, _], _ => rfl) (fun vs H Q E h => ?_) (fun f cdv A outer st H vs Q E hr h => ?_)
  · obtain ⟨x, p, t, ps, cl, a, b, rfl, _⟩ := h
    rfl
  · have hu := hu_of hr
    obtain ⟨x, p, t, ps, cl, a, b, rfl, ⟨⟨d, dx, hx, hd⟩, hp⟩, ht, k⟩ := h
    refine ⟨_, pss_one (ps_ret (pe_and (pc S hr (Nat.le_refl _) T.g_is_pair pass0 (pa_cons (pe_fld (pv 0) rfl) (pa_cons (pv 1) pa_nil)))
      (pe_one (pe_cmp (pc_dnotin hu (pv 1) (pe_fld (pv 0) rfl)))))), ?_⟩
    refine ⟨_, rfl, x, _, dx, _, _, rfl, hx, T.c_Party, T.n_Party_people, fsParty_people p d, _, rfl, p, t, ps, a, b, rfl, hp, SqT.of ht, fun H' s => ⟨_, rfl, ?_⟩⟩
    have k' := k H' s
    by_cases c : a ≠ b ∧ a ∈ ps ∧ b ∈ ps
    · rw [decide_eq_true c]
      refine iteT ?_
      have hd' : Rd H' d (.dT (mp k2 V.bl (clD cl))) := (Lq.of s).rd _ _ trivial hd
      have g := dget_t (x := (a, b)) hd' (s _ _ ht)
      refine ⟨_, rfl, _, rfl, x, _, dx, _, _, rfl, s _ _ hx, T.c_Party, T.n_Party_closed, fsParty_closed p d, d, _, rfl, g, ?_⟩
      have e : ((gt (clD cl) (a, b)).map V.bl).isSome = decide ((a, b) ∈ cl) := by rw [Option.isSome_map, clD_get]
      rw [e]
      have e2 : decide (a ≠ b ∧ a ∈ ps ∧ b ∈ ps ∧ (a, b) ∉ cl) = !decide ((a, b) ∈ cl) := by
        rw [← decide_not]
        exact decide_eq_decide.mpr ⟨fun z => z.2.2.2, fun z => ⟨c.1, c.2.1, c.2.2, z⟩⟩
      rw [← e2]
      exact k'
    · rw [decide_eq_false c]
      refine iteF ?_
      rw [decide_eq_false fun z => c ⟨z.1, z.2.1, z.2.2.1⟩] at k'
      exact k'
theorem ok_pmay (T : Tx K mg) : Ok P w K mg base CX0 5 dPartyMay ["self", "giver"] (spPMay K) := by
  have S1 := ok_cname (P := P) (w := w) (base := base) T
  obtain ⟨fdC, FC, bC⟩ := (ok_pcont (P := P) (w := w) (base := base) T).ex
  refine Ok.mk0 T _ ixPartyMay scPMay (fun _ _ _ _ _ _ us hl => match us, hl with | [_, _], _ => rfl) (fun vs H Q E h => ?_) (fun f cdv A outer st H vs Q E hr h => ?_)
  · obtain ⟨x, p, ps, cl, g, rfl, _⟩ := h
    rfl
  · have hu := hu_of hr
    obtain ⟨x, p, ps, cl, g, rfl, hP, ok, hg, k⟩ := h
    refine ⟨_, pss_cons (ps_expr (pc S1 hr (by decide) T.g_check_name pass0 (pa_cons (pe_fld (pv 0) rfl) (pa_cons (pv 1) pa_nil))))
      (pss_one (ps_ret (pe_callB cr_sortedS (by rfl) T.f_sorted (by decide +kernel) (pa_cons
        (pe_lc (own := [("taker", 2)]) (g := gName 2) rfl scPMay.nd (pi_tup (pe_fld (pv 0) rfl)) (blkOk_by (N := nPMay) (sc := dPartyMay.scope) (by decide +kernel)) (fun _ _ _ _ _ => pg_name (i := 2) scPMay.nd rfl (.inl rfl))
          (fun _ _ _ _ _ => pts_one (pt_cmpR (op_inO FC hr T.m_Party_contains.at_ T.m_Party_contains.fn bC pass0) (pe_tup (pa_cons (pv 1) (pa_cons (pv 2) pa_nil))) (pv 0) rfl)) (fun _ _ _ _ _ => pv 2)) pa_nil)))), ?_⟩
    obtain ⟨⟨d, dx, hx, hd⟩, hp⟩ := id hP
    refine ⟨_, rfl, x, _, dx, _, _, rfl, hx, T.c_Party, T.n_Party_people, fsParty_people p d, _, rfl, p, ps, g, rfl, hp, hg, ?_⟩
    refine ⟨_, rfl, x, _, dx, _, _, rfl, hx, T.c_Party, T.n_Party_people, fsParty_people p d, p, rfl, ⟨_, hp⟩, fun D hD => ?_⟩
    refine lc_w (Wk.tup (xs := ps.map V.str)) (fun j H' => Same H H' ∧ H' D = some (.lst (((ps.take j).filter (mayB cl g)).map V.str))) ⟨Same.new hD, upd_same⟩ (fun j H' _ p => hp.sameT p.1) ?_ ?_
    · rintro j y H4 H4' hj ⟨s4, d4⟩ ⟨rfl, hy⟩
      obtain ⟨t, ht, rfl⟩ := map_get hy
      have tin : t ∈ ps := List.mem_of_getElem? ht
      refine ⟨rfl, _, rfl, _, rfl, by show 2 ≤ sizeLine; decide, fun q hq => ⟨_, rfl, x, dx, _, rfl, Same.new hq _ _ (s4 _ _ hx), ?_⟩⟩
      refine ⟨x, p, q, ps, cl, g, t, rfl, hP.same (Same.new' s4 hq), upd_same, fun H5 s5 => ⟨_, rfl, _, rfl, ?_⟩⟩
      have s6 : Same H H5 := (Same.new' s4 hq).trans s5
      have d5 : H5 D = some (.lst (((ps.take j).filter (mayB cl g)).map V.str)) := s5 _ _ (Same.new hq _ _ d4)
      have e : decide (g ≠ t ∧ g ∈ ps ∧ t ∈ ps ∧ (g, t) ∉ cl) = mayB cl g t := decide_eq_decide.mpr ⟨fun z => ⟨z.1, z.2.2.2⟩, fun z => ⟨z.1, hg, tin, z.2⟩⟩
      rw [if_neg (by decide), e]
      have fs := filter_snoc (p := mayB cl g) ht
      cases c : mayB cl g t with
      | true =>
        refine iteT ?_
        rw [c, if_pos rfl] at fs
        refine ⟨_, rfl, _, d5, ?_, Same.mut s6 hD, ?_⟩
        · rw [List.length_map]
          have h1 := List.length_filter_le (mayB cl g) (ps.take j)
          rw [List.length_take] at h1
          have := ok.hi
          exact sz1000 (by omega)
        · rw [upd_same, fs, List.map_append]
          rfl
      | false =>
        refine iteF ⟨s6, ?_⟩
        rw [c, if_neg (by decide)] at fs
        rw [fs, List.append_nil]
        exact d5
    · rintro H4 ⟨s4, d4⟩
      rw [List.length_map, List.take_length] at d4
      have h1 := List.length_filter_le (mayB cl g) ps
      refine ⟨D, _, rfl, SqL.of d4, by have := ok.hi; omega, fun ys q pm so hq => ?_⟩
      have e := sorted_is (ok.nd.filter _) pm so
      subst e
      refine k _ q (Same.new' s4 hq) (s4.free hq) ?_
      rw [upd_same, srt_filter ok.nd]
end
end GF

/- DLeak -/
set_option Elab.async false
set_option linter.all false
set_option maxRecDepth 100000
set_option maxHeartbeats 4000000
namespace GF
open PySem PySem.Spec PyProof.Rows L2 GR
/-- what a leak tells -/
inductive Lk where
  | no (a b : Str)
  | this (a b : Str)
  | one (a : Str) (l : List Str)
  | frm (a : Str) (l : List Str)
  | lot (l m : List Str)
  | nev (l m : List Str)
def Lk.wd : Lk → Str
  | .no _ _ => "not"
  | .this _ _ => "this"
  | .one _ _ => "one"
  | .frm _ _ => "from"
  | .lot _ _ => "lot"
  | .nev _ _ => "never"
section
variable (K : PySem.W.Frag)
def LotV (H : Hp) (l : List Str) (v : V) : Prop := ∃ p, v = .ref p ∧ SqT K H p (l.map V.str)
def LkL (H : Hp) : Lk → V → Prop
  | .no a _, v => v = .str a
  | .this a _, v => v = .str a
  | .one a _, v => v = .str a
  | .frm a _, v => v = .str a
  | .lot l _, v => LotV K H l v
  | .nev l _, v => LotV K H l v
def LkR (H : Hp) : Lk → V → Prop
  | .no _ b, v => v = .str b
  | .this _ b, v => v = .str b
  | .one _ l, v => LotV K H l v
  | .frm _ l, v => LotV K H l v
  | .lot _ l, v => LotV K H l v
  | .nev _ l, v => LotV K H l v
def LkAt (H : Hp) (t : Addr) (k : Lk) : Prop := ∃ L R, SqT K H t [.str k.wd, L, R] ∧ LkL K H k L ∧ LkR K H k R
end
theorem LotV.lq {K : PySem.W.Frag} {H H' : Hp} {l : List Str} {v : V} (s : Lq H H') (h : LotV K H l v) : LotV K H' l v := ⟨h.choose, h.choose_spec.1, s.sqT h.choose_spec.2⟩
theorem LkAt.lq {K : PySem.W.Frag} {H H' : Hp} {t : Addr} {k : Lk} (h : LkAt K H t k) (s : Lq H H') : LkAt K H' t k := by
  obtain ⟨L, R, h1, h2, h3⟩ := h
  refine ⟨L, R, s.sqT h1, ?_, ?_⟩
  · cases k <;> first | exact h2 | exact LotV.lq s h2
  · cases k <;> first | exact h3 | exact LotV.lq s h3
theorem LkAt.same {K : PySem.W.Frag} {H H' : Hp} {t : Addr} {k : Lk} (h : LkAt K H t k) (s : Same H H') : LkAt K H' t k := h.lq (Lq.of s)
def LotOk (ps l : List Str) : Prop := l ≠ [] ∧ l.Nodup ∧ ∀ x, x ∈ l → x ∈ ps
def LkOk (ps : List Str) : Lk → Prop
  | .no a b => a ≠ b ∧ a ∈ ps ∧ b ∈ ps
  | .this a b => a ≠ b ∧ a ∈ ps ∧ b ∈ ps
  | .one a l => a ∈ ps ∧ LotOk ps l
  | .frm a l => a ∈ ps ∧ LotOk ps l
  | .lot l m => LotOk ps l ∧ LotOk ps m
  | .nev l m => LotOk ps l ∧ LotOk ps m
/-- does the leak let g give to t -/
def letB : Lk → Str → Str → Bool
  | .no a b, g, t => !decide (g = a) || !decide (t = b)
  | .this a b, g, t => decide (g = a) == decide (t = b)
  | .one a l, g, t => !decide (g = a) || decide (t ∈ l)
  | .frm a l, g, t => !decide (t = a) || decide (g ∈ l)
  | .lot l m, g, t => !decide (g ∈ l) || decide (t ∈ m)
  | .nev l m, g, t => !decide (g ∈ l) || !decide (t ∈ m)
theorem dstr (a b : Str) : decide (V.str a = V.str b) = decide (a = b) := decide_eq_decide.mpr ⟨fun h => by cases h; rfl, fun h => by rw [h]⟩
theorem eq_strs {H : Hp} {a b : Str} {Q : VK} (q : Q (.bl (decide (a = b))) H) : rEq (.str a) (.str b) H Q := ⟨rfl, by rw [dstr]; exact q⟩
theorem ne_strs {H : Hp} {a b : Str} {Q : VK} (q : Q (.bl (!decide (a = b))) H) : rNe (.str a) (.str b) H Q := ⟨rfl, by rw [dstr]; exact q⟩
theorem eq_bls {H : Hp} {a b : Bool} {Q : VK} (q : Q (.bl (a == b)) H) : rEq (.bl a) (.bl b) H Q := ⟨rfl, by
  have e : decide (V.bl a = V.bl b) = (a == b) := by cases a <;> cases b <;> decide
  rw [e]; exact q⟩
theorem or_if {c d : Bool} {F : Bool → Prop} {B : Prop} (h : F (c || d)) (k : F d → B) : if c = true then F true else B := by
  cases c
  · exact iteF (k h)
  · exact iteT h
theorem and_if {c d : Bool} {F : Bool → Prop} {B : Prop} (h : F (c && d)) (k : F d → B) : if c = true then B else F false := by
  cases c
  · exact iteF h
  · exact iteT (k h)
def spLot (K : PySem.W.Frag) : Sp := fun vs H Q _ => ∃ (p t : Addr) (ps xs : List Str), vs = [.ref p, .ref t] ∧ SqT K H p (ps.map V.str) ∧ SqT K H t (xs.map V.str) ∧ LotOk ps xs ∧ ∀ H', Same H H' → Q (.bl true) H'
abbrev nLot : List Str := ["people", "value"]
theorem scLot : FnScope nLot ["people", "value"] dIsLot.scope := ⟨rfl, rfl, rfl, by decide +kernel, rfl, by decide +kernel, by decide +kernel⟩
def spLeak (K : PySem.W.Frag) : Sp := fun vs H Q _ => ∃ (p t : Addr) (ps : List Str) (k : Lk), vs = [.ref p, .ref t] ∧ SqT K H p (ps.map V.str) ∧ LkAt K H t k ∧ LkOk ps k ∧ ∀ H', Same H H' → Q (.bl true) H'
abbrev nLeak : List Str := ["people", "leak"]
theorem scLeak : FnScope nLeak ["people", "leak"] dIsLeak.scope := ⟨rfl, rfl, rfl, by decide +kernel, rfl, by decide +kernel, by decide +kernel⟩
def spLets (K : PySem.W.Frag) : Sp := fun vs H Q _ => ∃ (t : Addr) (k : Lk) (g u : Str), vs = [.ref t, .str g, .str u] ∧ LkAt K H t k ∧ Q (.bl (letB k g u)) H
abbrev nLets : List Str := ["leak", "giver", "taker", "word", "left", "right"]
theorem scLets : FnScope nLets ["leak", "giver", "taker"] dLets.scope := ⟨rfl, rfl, rfl, by decide +kernel, rfl, by decide +kernel, by decide +kernel⟩
def spAllLet (K : PySem.W.Frag) : Sp := fun vs H Q _ => ∃ (l : Addr) (ks : List (Addr × Lk)) (g u : Str), vs = [.ref l, .str g, .str u] ∧ SqL K H l (refs ks) ∧ (∀ q, q ∈ ks → LkAt K H q.1 q.2) ∧ Q (.bl (ks.all fun q => letB q.2 g u)) H
abbrev nAllLet : List Str := ["leaks", "giver", "taker", "leak"]
theorem scAllLet : FnScope nAllLet ["leaks", "giver", "taker"] dAllLet.scope := ⟨rfl, rfl, rfl, by decide +kernel, rfl, by decide +kernel, by decide +kernel⟩
abbrev nLawLets : List Str := ["_law_leak_here", "_law_a", "_law_b"]
theorem scLawLets : FnScope nLawLets ["_law_leak_here", "_law_a", "_law_b"] dLawLets.scope := ⟨rfl, rfl, rfl, by decide +kernel, rfl, by decide +kernel, by decide +kernel⟩
section
variable {P : Program} {w : World} {K : PySem.W.Frag} {mg : Str → Option Value} {base : Heap}
theorem ok_lot (T : Tx K mg) : Ok P w K mg base CX0 3 dIsLot ["people", "value"] (spLot K) := by
  have S := ok_diff (P := P) (w := w) (base := base) T
  refine Ok.mk0 T _ ixIsLot scLot (fun _ _ _ _ _ _ us hl => match us, hl with | [_, _], _ => rfl) (fun vs H Q E h => ?_) (fun f cdv A outer st H vs Q E hr h => ?_)
  · obtain ⟨p, t, ps, xs, rfl, _⟩ := h
    rfl
  · obtain ⟨p, t, ps, xs, rfl, hp, ht, ok, k⟩ := h
    refine ⟨_, pss_one (ps_ret (pe_and (pe_callB call_isi (by rfl) T.f_isinstance (by decide +kernel) (pa_cons (pv 1) (pa_cons (pe_bltn (v := .ty "tuple") (by rfl) T.f_tuple (by decide +kernel) rfl) pa_nil)))
      (pe_and (pe_cmpR op_ge (pe_callB call_len (by rfl) T.f_len (by decide +kernel) (pa_cons (pv 1) pa_nil)) pe_int (nomark _))
      (pe_one (pc S hr (Nat.le_refl _) T.g_are_different pass0 (pa_cons (pv 0) (pa_cons (pv 1) pa_nil))))))), ?_⟩
    refine ⟨_, rfl, _, _, _, _, true, rfl, .ty _, tyT ht, kit_ty (by decide +kernel), true, rfl, iteT ?_⟩
    refine ⟨_, rfl, _, xs.length, rfl, .inr ⟨_, ht, by rw [List.length_map]⟩, _, _, rfl, rfl, _, rfl, ?_⟩
    have l1 : (1 : Int) ≤ (xs.length : Int) := by
      have := List.length_pos_iff.mpr ok.1
      omega
    rw [decide_eq_true l1]
    refine iteT ⟨_, rfl, _, rfl, p, t, ps, xs, rfl, hp, ht, fun H' s => ?_⟩
    rw [decide_eq_true ok.2]
    exact k H' s
theorem ok_lets (T : Tx K mg) : Ok P w K mg base CX0 1 dLets ["leak", "giver", "taker"] (spLets K) := by
  refine Ok.mk0 T _ ixLets scLets (fun _ _ _ _ _ _ us hl => match us, hl with | [_, _, _], _ => rfl) (fun vs H Q E h => ?_) (fun f cdv A outer st H vs Q E hr h => ?_)
  · obtain ⟨t, k, g, u, rfl, _⟩ := h
    rfl
  · obtain ⟨t, k, g, u, rfl, ⟨L, R, h1, h2, h3⟩, kk⟩ := h
    refine ⟨_, pss_cons (ps_asg (pv 0) (pg_tup rfl (pgs_cons (pg_name (i := 3) scLets.nd rfl (.inl rfl)) (pgs_cons (pg_name (i := 4) scLets.nd rfl (.inl rfl)) (pgs_cons (pg_name (i := 5) scLets.nd rfl (.inl rfl)) pgs_nil)))))
      (pss_cons (ps_if (pt_cmpR op_eq (pv 3) pe_str (nomark _)) (pss_one (ps_ret (pe_or (pe_cmpR op_ne (pv 1) (pv 4) (nomark _)) (pe_one (pe_cmpR op_ne (pv 2) (pv 5) (nomark _)))))) pss_nil)
      (pss_cons (ps_if (pt_cmpR op_eq (pv 3) pe_str (nomark _)) (pss_one (ps_ret (pe_cmpR op_eq (pe_cmpR op_eq (pv 1) (pv 4) (nomark _)) (pe_cmpR op_eq (pv 2) (pv 5) (nomark _)) (nomark _)))) pss_nil)
      (pss_cons (ps_if (pt_cmpR op_eq (pv 3) pe_str (nomark _)) (pss_one (ps_ret (pe_or (pe_cmpR op_ne (pv 1) (pv 4) (nomark _)) (pe_one (pe_cmpR op_in_seq (pv 2) (pv 5) rfl))))) pss_nil)
      (pss_cons (ps_if (pt_cmpR op_eq (pv 3) pe_str (nomark _)) (pss_one (ps_ret (pe_or (pe_cmpR op_ne (pv 2) (pv 4) (nomark _)) (pe_one (pe_cmpR op_in_seq (pv 1) (pv 5) rfl))))) pss_nil)
      (pss_cons (ps_if (pt_cmpR op_eq (pv 3) pe_str (nomark _)) (pss_one (ps_ret (pe_or (pe_cmpR op_notIn_seq (pv 1) (pv 4) rfl) (pe_one (pe_cmpR op_in_seq (pv 2) (pv 5) rfl))))) pss_nil)
      (pss_one (ps_ret (pe_or (pe_cmpR op_notIn_seq (pv 1) (pv 4) rfl) (pe_one (pe_cmpR op_notIn_seq (pv 2) (pv 5) rfl)))))))))), ?_⟩
    refine ⟨_, rfl, t, _, rfl, h1, rfl, _, _, rfl, _, _, rfl, _, _, rfl, rfl, ?_⟩
    have no : ∀ {a b : Str} {B C : Prop}, a ≠ b → C → (if decide (V.str a = V.str b) = true then B else C) := fun {a b B C} n c => by rw [dstr, decide_eq_false n]; exact iteF c
    have ye : ∀ {a : Str} {B C : Prop}, B → (if decide (V.str a = V.str a) = true then B else C) := fun {a B C} c => by rw [decide_eq_true rfl]; exact iteT c
    cases k with
    | no a b =>
      cases h2; cases h3
      refine ⟨_, rfl, rfl, _, rfl, ye ?_⟩
      exact ⟨_, rfl, _, rfl, ne_strs ⟨_, rfl, or_if (F := fun z => Q (.bl z) H) kk fun hd => ⟨_, rfl, _, rfl, ne_strs hd⟩⟩⟩
    | this a b =>
      cases h2; cases h3
      refine ⟨_, rfl, rfl, _, rfl, no (by dsimp only [Lk.wd]; decide +kernel) ?_⟩
      refine ⟨_, rfl, rfl, _, rfl, ye ?_⟩
      exact ⟨_, rfl, _, rfl, eq_strs ⟨_, rfl, _, rfl, eq_strs (eq_bls kk)⟩⟩
    | one a l =>
      cases h2; obtain ⟨pr, rfl, hpr⟩ := h3
      refine ⟨_, rfl, rfl, _, rfl, no (by dsimp only [Lk.wd]; decide +kernel) ?_⟩
      refine ⟨_, rfl, rfl, _, rfl, no (by dsimp only [Lk.wd]; decide +kernel) ?_⟩
      refine ⟨_, rfl, rfl, _, rfl, ye ?_⟩
      exact ⟨_, rfl, _, rfl, ne_strs ⟨_, rfl, or_if (F := fun z => Q (.bl z) H) kk fun hd => ⟨_, rfl, _, rfl, in_strs (.inr hpr) hd⟩⟩⟩
    | frm a l =>
      cases h2; obtain ⟨pr, rfl, hpr⟩ := h3
      refine ⟨_, rfl, rfl, _, rfl, no (by dsimp only [Lk.wd]; decide +kernel) ?_⟩
      refine ⟨_, rfl, rfl, _, rfl, no (by dsimp only [Lk.wd]; decide +kernel) ?_⟩
      refine ⟨_, rfl, rfl, _, rfl, no (by dsimp only [Lk.wd]; decide +kernel) ?_⟩
      refine ⟨_, rfl, rfl, _, rfl, ye ?_⟩
      exact ⟨_, rfl, _, rfl, ne_strs ⟨_, rfl, or_if (F := fun z => Q (.bl z) H) kk fun hd => ⟨_, rfl, _, rfl, in_strs (.inr hpr) hd⟩⟩⟩
    | lot l m =>
      obtain ⟨pl, rfl, hpl⟩ := h2; obtain ⟨pr, rfl, hpr⟩ := h3
      refine ⟨_, rfl, rfl, _, rfl, no (by dsimp only [Lk.wd]; decide +kernel) ?_⟩
      refine ⟨_, rfl, rfl, _, rfl, no (by dsimp only [Lk.wd]; decide +kernel) ?_⟩
      refine ⟨_, rfl, rfl, _, rfl, no (by dsimp only [Lk.wd]; decide +kernel) ?_⟩
      refine ⟨_, rfl, rfl, _, rfl, no (by dsimp only [Lk.wd]; decide +kernel) ?_⟩
      refine ⟨_, rfl, rfl, _, rfl, ye ?_⟩
      exact ⟨_, rfl, _, rfl, nin_strs (.inr hpl) ⟨_, rfl, or_if (F := fun z => Q (.bl z) H) kk fun hd => ⟨_, rfl, _, rfl, in_strs (.inr hpr) hd⟩⟩⟩
    | nev l m =>
      obtain ⟨pl, rfl, hpl⟩ := h2; obtain ⟨pr, rfl, hpr⟩ := h3
      refine ⟨_, rfl, rfl, _, rfl, no (by dsimp only [Lk.wd]; decide +kernel) ?_⟩
      refine ⟨_, rfl, rfl, _, rfl, no (by dsimp only [Lk.wd]; decide +kernel) ?_⟩
      refine ⟨_, rfl, rfl, _, rfl, no (by dsimp only [Lk.wd]; decide +kernel) ?_⟩
      refine ⟨_, rfl, rfl, _, rfl, no (by dsimp only [Lk.wd]; decide +kernel) ?_⟩
      refine ⟨_, rfl, rfl, _, rfl, no (by dsimp only [Lk.wd]; decide +kernel) ?_⟩
      exact ⟨_, rfl, _, rfl, nin_strs (.inr hpl) ⟨_, rfl, or_if (F := fun z => Q (.bl z) H) kk fun hd => ⟨_, rfl, _, rfl, nin_strs (.inr hpr) hd⟩⟩⟩
theorem ok_leak (T : Tx K mg) : Ok P w K mg base CX0 4 dIsLeak ["people", "leak"] (spLeak K) := by
  have S1 := ok_person (P := P) (w := w) (base := base) T
  have S2 := ok_pair (P := P) (w := w) (base := base) T
  have S3 := ok_lot (P := P) (w := w) (base := base) T
  refine Ok.mk0 T _ ixIsLeak scLeak (fun _ _ _ _ _ _ us hl => match us, hl with | [_, _], _ => rfl) (fun vs H Q E h => ?_) (fun f cdv A outer st H vs Q E hr h => ?_)
  · obtain ⟨p, t, ps, k, rfl, _⟩ := h
    rfl
  · obtain ⟨p, t, ps, k, rfl, hp, ⟨L, R, h1, h2, h3⟩, ok, kk⟩ := h
    refine ⟨_, pss_cons (ps_if (PW.pt (pw_or (pt_not (pt_val (pe_callB call_isi (by rfl) T.f_isinstance (by decide +kernel) (pa_cons (pv 1) (pa_cons (pe_bltn (v := .ty "tuple") (by rfl) T.f_tuple (by decide +kernel) rfl) pa_nil)))))
          (pw_or (pt_cmpR op_ne (pe_callB call_len (by rfl) T.f_len (by decide +kernel) (pa_cons (pv 1) pa_nil)) pe_int (nomark _))
          (pw_or1 (pt_not (pt_val (pe_callB call_isi (by rfl) T.f_isinstance (by decide +kernel) (pa_cons (pe_ix ix_tup (pv 1) pe_int (fun _ _ => rfl)) (pa_cons (pe_bltn (v := .ty "str") (by rfl) T.f_str (by decide +kernel) rfl) pa_nil)))))))))
          (pss_one (ps_ret pe_bl)) pss_nil)
      (pss_cons (ps_if (pt_cmpR op_in_seq (pe_ix ix_tup (pv 1) pe_int (fun _ _ => rfl)) (pe_tup (pa_cons pe_str (pa_cons pe_str pa_nil))) rfl)
          (pss_one (ps_ret (pc S2 hr (by decide) T.g_is_pair pass0 (pa_cons (pv 0) (pa_cons (pe_slice sl_tupA (pv 1) (po_some pe_int) po_none) pa_nil))))) pss_nil)
      (pss_cons (ps_if (pt_cmpR op_in_seq (pe_ix ix_tup (pv 1) pe_int (fun _ _ => rfl)) (pe_tup (pa_cons pe_str (pa_cons pe_str pa_nil))) rfl)
          (pss_one (ps_ret (pe_and (pc S1 hr (by decide) T.g_is_person pass0 (pa_cons (pv 0) (pa_cons (pe_ix ix_tup (pv 1) pe_int (fun _ _ => rfl)) pa_nil)))
            (pe_one (pc S3 hr (by decide) T.g_is_lot pass0 (pa_cons (pv 0) (pa_cons (pe_ix ix_tup (pv 1) pe_int (fun _ _ => rfl)) pa_nil))))))) pss_nil)
      (pss_cons (ps_if (pt_cmpR op_in_seq (pe_ix ix_tup (pv 1) pe_int (fun _ _ => rfl)) (pe_tup (pa_cons pe_str (pa_cons pe_str pa_nil))) rfl)
          (pss_one (ps_ret (pe_and (pc S3 hr (by decide) T.g_is_lot pass0 (pa_cons (pv 0) (pa_cons (pe_ix ix_tup (pv 1) pe_int (fun _ _ => rfl)) pa_nil)))
            (pe_one (pc S3 hr (by decide) T.g_is_lot pass0 (pa_cons (pv 0) (pa_cons (pe_ix ix_tup (pv 1) pe_int (fun _ _ => rfl)) pa_nil))))))) pss_nil)
      (pss_one ps_never)))), ?_⟩
    refine ⟨_, rfl, _, _, _, _, true, rfl, .ty _, tyT h1, kit_ty (by decide +kernel), true, rfl, iteF ?_⟩
    refine ⟨_, rfl, _, 3, rfl, .inr ⟨_, h1, rfl⟩, rfl, _, rfl, iteF ?_⟩
    refine ⟨_, rfl, t, _, 0, _, rfl, rfl, h1, rfl, _, _, _, _, true, rfl, .ty _, tyS k.wd, kit_ty (by decide +kernel), true, rfl, iteF ?_⟩
    have yes : ∀ {a b c : Str} {H1 : Hp} {B C : Hp → Prop}, Same H H1 → a ∈ [b, c] → (∀ H2, Same H H2 → B H2) → ∀ q, H1 q = none → rIn K false (.str a) (.ref q) (upd H1 q (.tup [.str b, .str c])) fun x H' => ∃ z, x = .bl z ∧ if z = true then B H' else C H' :=
      fun {a b c H1 B C} s m hB q hq => in_strs (xs := [b, c]) (.inr (SqT.of upd_same)) ⟨_, rfl, by rw [decide_eq_true m]; exact iteT (hB _ (Same.new' s hq))⟩
    have nay : ∀ {a b c : Str} {H1 : Hp} {B C : Hp → Prop}, Same H H1 → a ∉ [b, c] → (∀ H2, Same H H2 → C H2) → ∀ q, H1 q = none → rIn K false (.str a) (.ref q) (upd H1 q (.tup [.str b, .str c])) fun x H' => ∃ z, x = .bl z ∧ if z = true then B H' else C H' :=
      fun {a b c H1 B C} s m hC q hq => in_strs (xs := [b, c]) (.inr (SqT.of upd_same)) ⟨_, rfl, by rw [decide_eq_false m]; exact iteF (hC _ (Same.new' s hq))⟩
    have at0 : ∀ {H2 : Hp}, Same H H2 → SqT K H2 t [.str k.wd, L, R] := fun s => h1.sameT s
    have two : (2 : Nat) ≤ sizeLine := by decide
    refine ⟨_, rfl, t, _, 0, _, rfl, rfl, h1, rfl, two, ?_⟩
    cases k with
    | no a b =>
      cases h2; cases h3
      refine yes (Same.refl H) (by dsimp only [Lk.wd]; decide +kernel) fun H2 s2 => ?_
      refine ⟨_, rfl, _, rfl, _, rfl, t, _, rfl, at0 s2, fun hw => absurd hw.1 (show ¬ HT.sIx 3 0 (some 1) = 0 by decide), fun _ q hq => ⟨p, q, ps, a, b, rfl, hp.sameT (Same.new' s2 hq), SqT.of upd_same, fun H3 s3 => ?_⟩⟩
      rw [decide_eq_true (p := a ≠ b ∧ a ∈ ps ∧ b ∈ ps) ok]
      exact kk H3 ((Same.new' s2 hq).trans s3)
    | this a b =>
      cases h2; cases h3
      refine yes (Same.refl H) (by dsimp only [Lk.wd]; decide +kernel) fun H2 s2 => ?_
      refine ⟨_, rfl, _, rfl, _, rfl, t, _, rfl, at0 s2, fun hw => absurd hw.1 (show ¬ HT.sIx 3 0 (some 1) = 0 by decide), fun _ q hq => ⟨p, q, ps, a, b, rfl, hp.sameT (Same.new' s2 hq), SqT.of upd_same, fun H3 s3 => ?_⟩⟩
      rw [decide_eq_true (p := a ≠ b ∧ a ∈ ps ∧ b ∈ ps) ok]
      exact kk H3 ((Same.new' s2 hq).trans s3)
    | one a l =>
      cases h2; obtain ⟨pr, rfl, hpr⟩ := h3
      refine nay (Same.refl H) (by dsimp only [Lk.wd]; decide +kernel) fun H2 s2 => ⟨_, rfl, t, _, 0, _, rfl, rfl, at0 s2, rfl, two, ?_⟩
      refine yes s2 (by dsimp only [Lk.wd]; decide +kernel) fun H3 s3 => ?_
      refine ⟨_, rfl, _, rfl, t, _, 1, _, rfl, rfl, at0 s3, rfl, p, ps, a, rfl, hp.sameT s3, ?_⟩
      rw [decide_eq_true ok.1]
      exact ⟨_, rfl, iteT ⟨_, rfl, _, rfl, t, _, 2, _, rfl, rfl, at0 s3, rfl, p, pr, ps, l, rfl, hp.sameT s3, hpr.sameT s3, ok.2, fun H4 s4 => kk H4 (s3.trans s4)⟩⟩
    | frm a l =>
      cases h2; obtain ⟨pr, rfl, hpr⟩ := h3
      refine nay (Same.refl H) (by dsimp only [Lk.wd]; decide +kernel) fun H2 s2 => ⟨_, rfl, t, _, 0, _, rfl, rfl, at0 s2, rfl, two, ?_⟩
      refine yes s2 (by dsimp only [Lk.wd]; decide +kernel) fun H3 s3 => ?_
      refine ⟨_, rfl, _, rfl, t, _, 1, _, rfl, rfl, at0 s3, rfl, p, ps, a, rfl, hp.sameT s3, ?_⟩
      rw [decide_eq_true ok.1]
      exact ⟨_, rfl, iteT ⟨_, rfl, _, rfl, t, _, 2, _, rfl, rfl, at0 s3, rfl, p, pr, ps, l, rfl, hp.sameT s3, hpr.sameT s3, ok.2, fun H4 s4 => kk H4 (s3.trans s4)⟩⟩
    | lot l m =>
      obtain ⟨pl, rfl, hpl⟩ := h2; obtain ⟨pr, rfl, hpr⟩ := h3
      refine nay (Same.refl H) (by dsimp only [Lk.wd]; decide +kernel) fun H2 s2 => ⟨_, rfl, t, _, 0, _, rfl, rfl, at0 s2, rfl, two, ?_⟩
      refine nay s2 (by dsimp only [Lk.wd]; decide +kernel) fun H3 s3 => ⟨_, rfl, t, _, 0, _, rfl, rfl, at0 s3, rfl, two, ?_⟩
      refine yes s3 (by dsimp only [Lk.wd]; decide +kernel) fun H4 s4 => ?_
      refine ⟨_, rfl, _, rfl, t, _, 1, _, rfl, rfl, at0 s4, rfl, p, pl, ps, l, rfl, hp.sameT s4, hpl.sameT s4, ok.1, fun H5 s5 => ?_⟩
      have s5' := s4.trans s5
      exact ⟨_, rfl, iteT ⟨_, rfl, _, rfl, t, _, 2, _, rfl, rfl, at0 s5', rfl, p, pr, ps, m, rfl, hp.sameT s5', hpr.sameT s5', ok.2, fun H6 s6 => kk H6 (s5'.trans s6)⟩⟩
    | nev l m =>
      obtain ⟨pl, rfl, hpl⟩ := h2; obtain ⟨pr, rfl, hpr⟩ := h3
      refine nay (Same.refl H) (by dsimp only [Lk.wd]; decide +kernel) fun H2 s2 => ⟨_, rfl, t, _, 0, _, rfl, rfl, at0 s2, rfl, two, ?_⟩
      refine nay s2 (by dsimp only [Lk.wd]; decide +kernel) fun H3 s3 => ⟨_, rfl, t, _, 0, _, rfl, rfl, at0 s3, rfl, two, ?_⟩
      refine yes s3 (by dsimp only [Lk.wd]; decide +kernel) fun H4 s4 => ?_
      refine ⟨_, rfl, _, rfl, t, _, 1, _, rfl, rfl, at0 s4, rfl, p, pl, ps, l, rfl, hp.sameT s4, hpl.sameT s4, ok.1, fun H5 s5 => ?_⟩
      have s5' := s4.trans s5
      exact ⟨_, rfl, iteT ⟨_, rfl, _, rfl, t, _, 2, _, rfl, rfl, at0 s5', rfl, p, pr, ps, m, rfl, hp.sameT s5', hpr.sameT s5', ok.2, fun H6 s6 => kk H6 (s5'.trans s6)⟩⟩
theorem ok_alllet (T : Tx K mg) : Ok P w K mg base CX0 2 dAllLet ["leaks", "giver", "taker"] (spAllLet K) := by
  have S := ok_lets (P := P) (w := w) (base := base) T
  refine Ok.mk0 T _ ixAllLet scAllLet (fun _ _ _ _ _ _ us hl => match us, hl with | [_, _, _], _ => rfl) (fun vs H Q E h => ?_) (fun f cdv A outer st H vs Q E hr h => ?_)
  · obtain ⟨l, ks, g, u, rfl, _⟩ := h
    rfl
  · obtain ⟨l, ks, g, u, rfl, hl, hk, kk⟩ := h
    refine ⟨_, pss_cons (ps_for PassesOwn.never rfl (pi_list (pv 0)) (pg_name (i := 3) scAllLet.nd rfl (.inl rfl))
        (pss_one (ps_if (pt_not (pt_val (pc S hr (Nat.le_refl _) T.g_lets pass0 (pa_cons (pv 3) (pa_cons (pv 1) (pa_cons (pv 2) pa_nil)))))) (pss_one (ps_ret pe_bl)) pss_nil)))
      (pss_one (ps_ret pe_bl)), ?_⟩
    refine ⟨_, rfl, l, rfl, ⟨_, hl⟩, for_w (Wk.list (xs := refs ks)) (fun i σ H' => H' = H ∧ ((ks.take i).all fun q => letB q.2 g u) = true ∧ ∃ v, σ = [some (.ref l), some (.str g), some (.str u), v]) ⟨rfl, rfl, none, rfl⟩ (fun i σ H' _ ⟨e, _⟩ => by rw [e]; exact hl) ?_ ?_⟩
    · rintro i y σ H' H'' hi ⟨rfl, al, v, rfl⟩ ⟨rfl, hy⟩
      obtain ⟨q, hq, rfl⟩ := refs_get hy
      have qin := List.mem_of_getElem? hq
      refine ⟨_, rfl, _, rfl, _, rfl, q.1, q.2, g, u, rfl, hk q qin, _, rfl, ?_⟩
      cases c : letB q.2 g u with
      | true =>
        refine iteF ⟨rfl, ?_, _, rfl⟩
        rw [take_snoc hq, List.all_append, al]
        simp [c]
      | false =>
        refine iteT ?_
        have e : (ks.all fun q => letB q.2 g u) = false := List.all_eq_false.mpr ⟨q, qin, by simp [c]⟩
        rw [e] at kk
        exact kk
    · rintro σ H' ⟨rfl, al, v, rfl⟩
      rw [refs_len, List.take_length] at al
      rw [al] at kk
      exact kk
end
end GF

/- GRows -/
set_option Elab.async false
set_option linter.all false
set_option maxRecDepth 100000
set_option maxHeartbeats 4000000
/-! Rows as they are laid, one giver a turn. -/
namespace GF
open PySem PySem.Spec PyProof.Rows L2 GR
structure RowsB (H0 H' : Hp) (D : Addr) (gs : List Str) (rw_ : Str → List Str) (i : Nat) : Prop where
  same : Same H0 H'
  ex : ∃ ad : Str → Addr, H' D = some (.dK (mp ks V.ref ((gs.take i).map fun g => (g, ad g)))) ∧ ∀ g, g ∈ gs.take i → H' (ad g) = some (.lst ((rw_ g).map V.str))
theorem RowsB.start {H : Hp} {D : Addr} {gs : List Str} {rw_ : Str → List Str} (h : H D = none) : RowsB H (upd H D (.dK [])) D gs rw_ 0 := ⟨Same.new h, fun _ => 0, by rw [upd_same]; rfl, by simp⟩
theorem RowsB.ext {H0 H' H2 : Hp} {D : Addr} {gs : List Str} {rw_ : Str → List Str} {i : Nat} (h : RowsB H0 H' D gs rw_ i) (s : Same H' H2) : RowsB H0 H2 D gs rw_ i := by
  obtain ⟨s0, ad, h1, h2⟩ := h
  exact ⟨s0.trans s, ad, s _ _ h1, fun g hg => s _ _ (h2 g hg)⟩
theorem RowsB.next {H0 H' : Hp} {D q : Addr} {gs : List Str} {rw_ : Str → List Str} {i : Nat} {g : Str} (h : RowsB H0 H' D gs rw_ i) (hg : gs[i]? = some g) (nd : gs.Nodup) (few : gs.length ≤ 1000) (hD : H0 D = none) (hq : H' q = some (.lst ((rw_ g).map V.str))) :
    ∃ H3, DPut H' D (.str g) (.ref q) H3 ∧ RowsB H0 H3 D gs rw_ (i + 1) := by
  obtain ⟨s0, ad, h1, h2⟩ := h
  have gno := not_mem_take nd hg
  refine ⟨_, dput_s h1 g q ?_, Same.mut s0 hD, fun x => if x = g then q else ad x, ?_, fun x hx => ?_⟩
  · rw [List.length_map, List.length_take]
    exact sz1000 (by omega)
  · rw [upd_same, take_snoc hg, List.map_append, put_new]
    · have e : (gs.take i).map (fun x => (x, ad x)) = (gs.take i).map (fun x => (x, if x = g then q else ad x)) := by
        apply List.map_congr_left
        intro x hx
        show (x, ad x) = (x, if x = g then q else ad x)
        rw [if_neg fun e : x = g => gno (by rw [← e]; exact hx)]
      rw [e]
      simp
    · rw [keys_fn]
      exact gno
  · have nl : ∀ {a : Addr} {xs : List V}, H' a = some (.lst xs) → a ≠ D := fun e n => by
      rw [n, h1] at e
      cases e
    show upd H' D _ (if x = g then q else ad x) = _
    by_cases c : x = g
    · rw [if_pos c, upd_ne (nl hq), c]
      exact hq
    · rw [if_neg c]
      rw [take_snoc hg] at hx
      have hx' : x ∈ gs.take i := by
        rcases List.mem_append.mp hx with q | q
        · exact q
        · exact absurd (List.mem_singleton.mp q) c
      rw [upd_ne (nl (h2 x hx'))]
      exact h2 x hx'
theorem RowsB.fin {H0 H' : Hp} {D : Addr} {gs : List Str} {rw_ : Str → List Str} (h : RowsB H0 H' D gs rw_ gs.length) : ∃ ad, RowsU H' D gs ad rw_ := by
  obtain ⟨_, ad, h1, h2⟩ := h
  rw [List.take_length] at h1 h2
  exact ⟨ad, h1, fun g hg => .inl (h2 g hg)⟩
/-- what happens in an object's new place leaves the rest -/
theorem not_ins {H : Hp} {x C dx a : Addr} {fs : List (Str × V)} {u : HO} (hx : H x = some (.ins C dx fs)) (ha : H a = some u) (n : ∀ C dx fs, u ≠ .ins C dx fs) : a ≠ x := fun e => by
  rw [e, hx] at ha
  cases ha
  exact n _ _ _ rfl
theorem But.sqL {K : PySem.W.Frag} {H H' : Hp} {x C dx l : Addr} {fs : List (Str × V)} {xs : List V} (b : But [x] H H') (hx : H x = some (.ins C dx fs)) (hl : SqL K H l xs) : SqL K H' l xs := by
  rcases hl with (hl | ⟨o, hl⟩) | hl
  · exact .inl (.inl (b _ _ (fun m => not_ins hx hl (fun _ _ _ z => by cases z) (List.mem_singleton.mp m)) hl))
  · exact .inl (.inr ⟨o, b _ _ (fun m => not_ins hx hl (fun _ _ _ z => by cases z) (List.mem_singleton.mp m)) hl⟩)
  · exact .inr hl
theorem But.sqT {K : PySem.W.Frag} {H H' : Hp} {x C dx l : Addr} {fs : List (Str × V)} {xs : List V} (b : But [x] H H') (hx : H x = some (.ins C dx fs)) (hl : SqT K H l xs) : SqT K H' l xs := by
  rcases hl with (hl | ⟨o, hl⟩) | hl
  · exact .inl (.inl (b _ _ (fun m => not_ins hx hl (fun _ _ _ z => by cases z) (List.mem_singleton.mp m)) hl))
  · exact .inl (.inr ⟨o, b _ _ (fun m => not_ins hx hl (fun _ _ _ z => by cases z) (List.mem_singleton.mp m)) hl⟩)
  · exact .inr hl
theorem But.rdx {H H' : Hp} {x C dx a : Addr} {fs : List (Str × V)} {u : HO} (b : But [x] H H') (hx : H x = some (.ins C dx fs)) (n : ∀ C dx fs, u ≠ .ins C dx fs) (h : Rd H a u) : Rd H' a u :=
  h.elim (fun h => .inl (b _ _ (fun m => not_ins hx h n (List.mem_singleton.mp m)) h)) fun ⟨o, h⟩ => .inr ⟨o, b _ _ (fun m => not_ins hx h (fun _ _ _ z => by cases z) (List.mem_singleton.mp m)) h⟩
/-- a party is not the object that is being made -/
theorem PartyAt.but {K : PySem.W.Frag} {H H' : Hp} {x C dx y p : Addr} {fs : List (Str × V)} {ps : List Str} {cl : List (Str × Str)} (h : PartyAt K H y p ps cl) (b : But [x] H H') (hx : H x = some (.ins C dx fs)) (ne : y ≠ x) : PartyAt K H' y p ps cl := by
  obtain ⟨⟨d, dx', h1, h2⟩, h3⟩ := h
  exact ⟨⟨d, dx', b _ _ (fun m => ne (List.mem_singleton.mp m)) h1, b.rdx hx (fun _ _ _ z => by cases z) h2⟩, b.sqT hx h3⟩
section
variable {J : It} {n : Nat} {Kp : Hp → Prop} {Y : Nat → V → Hp → Hp → Prop}
/-- turns of a comprehension, whatever stands in a turn -/
theorem lco_w (w : Wk J n Kp Y) {B : V → Hp → (Hp → Prop) → Prop} {H0 : Hp} {Qd : Hp → Prop} (Pv : Nat → Hp → Prop) (h0 : Pv 0 H0) (hk : ∀ i H, i ≤ n → Pv i H → Kp H)
    (hs : ∀ i x H H', i < n → Pv i H → Y i x H H' → B x H' (Pv (i + 1))) (hd : ∀ H, Pv n H → Qd H) :
    ∃ W : Nat → Nat → Hp → Prop, (∃ m, W 0 m H0) ∧ ∀ i m H, W i m H → (J.stop i H ∧ Qd H) ∨ (J.go i H ∧ ∃ Nx : Hp → Prop, (∀ H', Nx H' → ∃ m', m' < m ∧ W (i + 1) m' H') ∧ ∀ x H', J.yld i H x H' → B x H' Nx) := by
  refine ⟨fun i m H => m = n - i ∧ i ≤ n ∧ Pv i H, ⟨n, by simp, Nat.zero_le _, h0⟩, ?_⟩
  rintro i m H ⟨rfl, hi, p⟩
  by_cases lt : i < n
  · exact .inr ⟨w.go i H lt (hk i H hi p), Pv (i + 1), fun H' p' => ⟨n - (i + 1), by omega, rfl, lt, p'⟩, fun x H' y => hs i x H H' lt p (w.yld i H x H' (hk i H hi p) y)⟩
  · have e : i = n := by omega
    subst e
    exact .inl ⟨w.stop H (hk _ H hi p), hd H p⟩
end
end GF

/- GRulesC -/
set_option Elab.async false
set_option linter.all false
set_option maxRecDepth 100000
set_option maxHeartbeats 4000000
/-! sorted of any number of pairs of texts: the same pairs in some order. -/
namespace GF
open PySem PySem.Spec PyProof.Rows L2 GR
theorem perm_back {α β : Type} {f : α → β} {l1 l2 : List β} (h : l1.Perm l2) : ∀ qs : List α, l2 = qs.map f → ∃ zs : List α, zs.Perm qs ∧ l1 = zs.map f := by
  induction h with
  | nil =>
    intro qs e
    have : qs = [] := by
      cases qs with
      | nil => rfl
      | cons a t => cases e
    subst this
    exact ⟨[], .refl _, rfl⟩
  | cons x p ih =>
    intro qs e
    cases qs with
    | nil => cases e
    | cons q t =>
      rw [List.map_cons] at e
      injection e with e1 e2
      obtain ⟨zs, hz, ez⟩ := ih t e2
      exact ⟨q :: zs, hz.cons q, by rw [List.map_cons, ← ez, e1]⟩
  | swap x y l =>
    intro qs e
    match qs, e with
    | [], e => cases e
    | [_], e => cases e
    | q :: r :: t, e =>
      rw [List.map_cons, List.map_cons] at e
      injection e with e1 e2
      injection e2 with e2 e3
      exact ⟨r :: q :: t, .swap _ _ _, by rw [List.map_cons, List.map_cons, e1, e2, e3]⟩
  | trans p q ih1 ih2 =>
    intro qs e
    obtain ⟨zs, hz, ez⟩ := ih2 qs e
    obtain ⟨ys, hy, ey⟩ := ih1 zs ez
    exact ⟨ys, hy.trans hz, ey⟩
def shS : Nat → Bool := fun _ => true
theorem refs_vals : ∀ {α : Type} {qs : List (Addr × α)} {us : List Value}, Vals (refs qs) us → us = qs.map fun q => Value.ref q.1
  | _, [], _, .nil => rfl
  | _, q :: qs, _, .cons r t => by
    cases r
    rw [refs_vals t]
    rfl
theorem vals_refs {α : Type} : ∀ qs : List (Addr × α), Vals (refs qs) (qs.map fun q => Value.ref q.1)
  | [] => .nil
  | q :: qs => .cons (show RelV (.ref q.1) (.ref q.1) from rfl) (vals_refs qs)
theorem arr_pairs {vs : List Value} {a : Array (Value × Value)} (h : a.Perm (pairsOf vs)) : (a.map (·.2)).toList.Perm vs := by
  have e := (h.toList).map (·.2)
  rw [Array.toList_map]
  refine e.trans ?_
  rw [pairsOf_toList]
  have : ((vs.zip vs).map (·.2)) = vs := by rw [List.map_snd_zip (Nat.le_refl _)]
  rw [this]
def rSortedP (K : PySem.W.Frag) : List V → Hp → VK → Prop := fun vs H Q => ∃ (a : Addr) (qs : List (Addr × (Str × Str))), vs = [V.ref a] ∧ SqL K H a (refs qs) ∧ PairsAt H qs ∧
  ∀ (zs : List (Addr × (Str × Str))) (p : Addr), zs.Perm qs → H p = none → Q (.ref p) (upd H p (.lst (refs zs)))
section
variable {X : Cx}
theorem cr_sortedP : CallR X (.builtin "sorted") (rSortedP X.K) := by
  intro pins s σ H vs us Q I r h
  obtain ⟨a, qs, rfl, hs, hq, q⟩ := h
  obtain ⟨its, rv, hl, hz⟩ := I.list hs
  obtain rfl := refs_vals rv
  rw [Vals.ref1 r]
  have raw : ∀ x, x ∈ qs → ∃ o t1 t2 n, s.heap.get? x.1 = some o ∧ o.cls = .type "tuple" ∧ o.data = .seq #[.str x.2.1 t1, .str x.2.2 t2] n := fun x hx => by
    obtain ⟨is, r, ⟨o, ho, hc, n, hd⟩, _⟩ := I.tuple (SqT.of (K := X.K) (hq x hx))
    cases r with
    | cons r1 rr =>
      cases rr with
      | cons r2 rr =>
        cases rr
        obtain ⟨t1, rfl⟩ := r1
        obtain ⟨t2, rfl⟩ := r2
        exact ⟨o, t1, t2, n, ho, hc, hd⟩
  have tups : ∀ l : List (Addr × (Str × Str)), (∀ x, x ∈ l → x ∈ qs) → ∃ fs, TupsOf s.heap shS (l.map fun q => Value.ref q.1) fs := fun l => by
    induction l with
    | nil => exact fun _ => ⟨[], .nil⟩
    | cons q l ih =>
      intro hl'
      obtain ⟨fs, h2⟩ := ih fun x hx => hl' x (List.mem_cons_of_mem _ hx)
      obtain ⟨o, t1, t2, n, ho, hc, hd⟩ := raw q (hl' q List.mem_cons_self)
      exact ⟨_ :: fs, .cons ⟨q.1, o, _, n, rfl, ho, hc, hd, rfl, fun z => absurd z (by decide), fun _ => ⟨_, t1, rfl⟩⟩ h2⟩
  obtain ⟨fs, ht⟩ := tups qs fun _ h => h
  refine G.sorted_tups (shape := shS) (vs := qs.map fun q => Value.ref q.1) hl.isList ht (fun v hv => ?_) (by rw [List.length_map]; rw [refs_len] at hz; exact hz) fun st' hp _ _ => ?_
  · obtain ⟨x, hx, rfl⟩ := List.mem_map.mp hv
    obtain ⟨o, t1, t2, n, ho, hc, hd⟩ := raw x hx
    refine ⟨[Sum.inr x.2.1.cps.toList, Sum.inr x.2.2.cps.toList], ?_⟩
    unfold G.tupKeyC
    have e1 : G.isTupObj s.heap (.ref x.1) = true := by simp [G.isTupObj, ho, hc]
    rw [if_pos e1]
    simp only [PyProof.Rows.tupKey, ho, hd]
    rfl
  · obtain ⟨zs, hz1, hz2⟩ := perm_back (arr_pairs hp) qs rfl
    obtain ⟨ep, he'⟩ := PyProof.Rows.sortedAll_at s.heap (qs.map fun q => Value.ref q.1) ((PyProof.Rows.arrOf st').map (·.2))
    refine ⟨.ref _, upd H (s.heap.objs.size + 1) (.lst (refs zs)), I.laid (t' := s.toks) (fun _ _ => PyProof.Rows.sortedAll_old) (Nat.le_succ _) ⟨?_, ((PyProof.Rows.arrOf st').map (·.2)).toList, ep, ?_, he'⟩, rfl, q zs _ hz1 (I.hok.fresh (Nat.le_succ _))⟩
    · rw [refs_len, hz1.length_eq, ← refs_len]
      exact hz
    · rw [hz2]
      exact vals_refs zs
end
end GF

/- GK -/
set_option Elab.async false
set_option linter.all false
set_option maxRecDepth 100000
set_option maxHeartbeats 4000000
/-! Rules with the written part by name: inside a comprehension the reading must not speak of the block. -/
namespace GF
open PySem PySem.Spec PyProof.Rows L2 GR
def rListOf (K : PySem.W.Frag) : List V → Hp → VK → Prop := fun xs H Q => ∃ p ys, xs = [.ref p] ∧ (SqL K H p ys ∨ SqT K H p ys) ∧ ∀ l, H l = none → Q (.ref l) (upd H l (.lst ys))
def rLen (K : PySem.W.Frag) : List V → Hp → VK → Prop := fun xs H Q => ∃ x n, xs = [x] ∧ LenV K x H n ∧ Q (.int n) H
section
variable {X : Cx} {K : PySem.W.Frag}
theorem pe_fldK {e : Expr} {ta : TE} {f : Str} {pos : Pos} (hK : X.K = K) (he : PE X e ta) (hb : attributeBase e f X.env (eval e X.env) = eval e X.env := by rfl) : PE X (.Attribute e f pos) (tFld K ta f) := by
  subst hK
  exact pe_fld he hb
theorem call_list_ofK (hK : X.K = K) : CallR X (.type "list") (rListOf K) := by
  subst hK
  exact call_list_of
theorem pi_listK {tg l : Expr} {tl : TE} (hK : X.K = K) (hl : PE X l tl) : PI X tg l (iList K tl) := by
  subst hK
  exact pi_list hl
theorem pi_tupK {tg l : Expr} {tl : TE} (hK : X.K = K) (hl : PE X l tl) : PI X tg l (iTup K tl) := by
  subst hK
  exact pi_tup hl
theorem op_inK (hK : X.K = K) : OpR X (compareOp .In) (rIn K false) := by
  subst hK
  exact op_in_seq
theorem op_ninK (hK : X.K = K) : OpR X (compareOp .NotIn) (rIn K true) := by
  subst hK
  exact op_notIn_seq
theorem ix_listK (hK : X.K = K) : IxR X (rIxL K) := by
  subst hK
  exact ix_list
theorem ix_tupK (hK : X.K = K) : IxR X (rIxT K) := by
  subst hK
  exact ix_tup
theorem cr_minK' (hK : X.K = K) (hc : X.calm = true) : CallR X (.builtin "min") (rMin K) := by
  subst hK
  exact cr_min hc
theorem call_lenK (hK : X.K = K) : CallR X (.builtin "len") (rLen K) := by
  subst hK
  exact call_len
end
end GF

/- DBook -/
set_option Elab.async false
set_option linter.all false
set_option maxRecDepth 100000
set_option maxHeartbeats 4000000
namespace GF
open PySem PySem.Spec PyProof.Rows L2 GR
def fsBook (pa lk r : Addr) : List (Str × V) := putF "_rows" (.ref r) (putF "_leaks" (.ref lk) (putF "_party" (.ref pa) []))
theorem fsBook_party (pa lk r : Addr) : (fsBook pa lk r).lookup ("_party" : Str) = some (V.ref pa) := by
  unfold fsBook
  rw [lookup_putF, if_neg (by decide +kernel), lookup_putF, if_neg (by decide +kernel), lookup_putF, if_pos rfl]
theorem fsBook_rows (pa lk r : Addr) : (fsBook pa lk r).lookup ("_rows" : Str) = some (V.ref r) := by
  unfold fsBook
  rw [lookup_putF, if_pos rfl]
theorem fsBook_no (pa lk r : Addr) {m : Str} (h1 : m ≠ "_rows") (h2 : m ≠ "_leaks") (h3 : m ≠ "_party") : (fsBook pa lk r).lookup m = none := by
  unfold fsBook
  rw [lookup_putF, if_neg h1, lookup_putF, if_neg h2, lookup_putF, if_neg h3]
  rfl
/-- the takers whom g may have -/
def frow (ps : List Str) (cl : List (Str × Str)) (ks : List Lk) (g : Str) : List Str := ((srt ps).filter (mayB cl g)).filter fun t => ks.all fun k => letB k g t
structure BookAt (K : PySem.W.Frag) (H : Hp) (x pa p : Addr) (ps : List Str) (cl : List (Str × Str)) (rw_ : Str → List Str) : Prop where
  ins : ∃ lk r dx ad, H x = some (.ins (He.ga K "Book") dx (fsBook pa lk r)) ∧ RowsU H r ps ad rw_
  pt : PartyAt K H pa p ps cl
theorem BookAt.same {K : PySem.W.Frag} {H H' : Hp} {x pa p : Addr} {ps : List Str} {cl : List (Str × Str)} {rw_ : Str → List Str} (h : BookAt K H x pa p ps cl rw_) (s : Same H H') : BookAt K H' x pa p ps cl rw_ := by
  obtain ⟨⟨lk, r, dx, ad, h1, h2⟩, h3⟩ := h
  exact ⟨⟨lk, r, dx, ad, s _ _ h1, h2.same s⟩, h3.same s⟩
def spBInit (K : PySem.W.Frag) : Sp := fun vs H Q _ => ∃ (x pa p l dx : Addr) (ps : List Str) (cl : List (Str × Str)) (ks : List (Addr × Lk)), vs = [.ref x, .ref pa, .ref l] ∧ H x = some (.ins (He.ga K "Book") dx []) ∧ PartyAt K H pa p ps cl ∧ pa ≠ x ∧ PeopleOk ps ∧
  SqL K H l (refs ks) ∧ (∀ q, q ∈ ks → LkAt K H q.1 q.2 ∧ LkOk ps q.2) ∧ ks.length ≤ 40 ∧ ∀ H', But [x] H H' → BookAt K H' x pa p ps cl (frow ps cl (ks.map (·.2))) → Q .non H'
abbrev nBInit : List Str := ["self", "party", "leaks", "people", "index", "leak", "free_rows", "giver", "may", "taker"]
theorem scBInit : FnScope nBInit ["self", "party", "leaks"] dBookInit.scope := ⟨rfl, rfl, rfl, by decide +kernel, rfl, by decide +kernel, by decide +kernel⟩
def spBParty (K : PySem.W.Frag) : Sp := fun vs H Q _ => ∃ (x pa p : Addr) (ps : List Str) (cl : List (Str × Str)) (rw_ : Str → List Str), vs = [.ref x] ∧ BookAt K H x pa p ps cl rw_ ∧ Q (.ref pa) H
abbrev nBParty : List Str := ["self"]
theorem scBParty : FnScope nBParty ["self"] dBookParty.scope := ⟨rfl, rfl, rfl, by decide +kernel, rfl, by decide +kernel, by decide +kernel⟩
def spBRows (K : PySem.W.Frag) : Sp := fun vs H Q _ => ∃ (x pa p : Addr) (ps : List Str) (cl : List (Str × Str)) (rw_ : Str → List Str), vs = [.ref x] ∧ BookAt K H x pa p ps cl rw_ ∧ PeopleOk ps ∧
  ∀ H' r ad, Same H H' → H r = none → RowsU H' r ps ad rw_ → Q (.ref r) H'
abbrev nBRows : List Str := ["self", "giver"]
theorem scBRows : FnScope nBRows ["self"] dBookRows.scope := ⟨rfl, rfl, rfl, by decide +kernel, rfl, by decide +kernel, by decide +kernel⟩
section
variable {P : Program} {w : World} {K : PySem.W.Frag} {mg : Str → Option Value} {base : Heap}
theorem ok_binit (T : Tx K mg) : Ok P w K mg base CX0 6 dBookInit ["self", "party", "leaks"] (spBInit K) := by
  have S1 := ok_leak (P := P) (w := w) (base := base) T
  have S2 := ok_alllet (P := P) (w := w) (base := base) T
  obtain ⟨fdP, FP, bP⟩ := (ok_ppeople (P := P) (w := w) (base := base) T).ex
  obtain ⟨fdM, FM, bM⟩ := (ok_pmay (P := P) (w := w) (base := base) T).ex
  refine Ok.mk0 T _ ixBookInit scBInit (fun _ _ _ _ _ _ us hl => match us, hl with | [_, _, _], _ => rfl) (fun vs H Q E h => ?_) (fun f cdv A outer st H vs Q E hr h => ?_)
  · obtain ⟨x, pa, p, l, dx, ps, cl, ks, rfl, _⟩ := h
    rfl
  · have hu := hu_of hr
    obtain ⟨x, pa, p, l, dx, ps, cl, ks, rfl, hx, hP, ne, ok, hl, hk, few, k⟩ := h
    obtain ⟨tm, gm⟩ := T.i_MOST_LEAKS
    refine ⟨_, pss_cons (ps_if (PW.pt (pw_or (pt_not (pt_val (pe_callB call_isi (by rfl) T.f_isinstance (by decide +kernel) (pa_cons (pv 2) (pa_cons (pe_bltn (v := .ty "list") (by rfl) T.f_list (by decide +kernel) rfl) pa_nil)))))
          (pw_or1 (pt_cmpR op_gt (pe_callB call_len (by rfl) T.f_len (by decide +kernel) (pa_cons (pv 2) pa_nil)) (pe_glob (v := .int 40) rfl gm ⟨_, rfl⟩) (nomark _))))) pss_never pss_nil)
      (pss_cons (ps_set (i := 3) scBInit.nd rfl (.inl rfl) (pe_meth0 (pv 1) T.c_Party T.m_Party_people FP (hr.mono (by decide)) bP .nil pass0))
      (pss_cons (ps_for PassesOwn.never rfl (pi_enum (by rfl) T.f_enumerate (pa_cons (pv 2) pa_nil)) (pg_tup rfl (pgs_cons (pg_name (i := 4) scBInit.nd rfl (.inl rfl)) (pgs_cons (pg_name (i := 5) scBInit.nd rfl (.inl rfl)) pgs_nil)))
        (pss_one (ps_if (pt_not (pt_val (pc S1 hr (by decide) T.g_is_leak pass0 (pa_cons (pv 3) (pa_cons (pv 5) pa_nil))))) pss_never pss_nil)))
      (pss_cons (ps_set (i := 6) scBInit.nd rfl (.inl rfl) pe_dnewK)
      (pss_cons (ps_for PassesOwn.never rfl (pi_tup (pv 3)) (pg_name (i := 7) scBInit.nd rfl (.inr rfl))
        (pss_cons (ps_set (i := 8) scBInit.nd rfl (.inl rfl) (pe_meth (pv 1) T.c_Party T.m_Party_may FM (hr.mono (by decide)) bM .nil pass0 (pa_cons (pv 7) pa_nil)))
        (pss_one (ps_dput hu (pv 6) (pv 7) (pe_lc (own := [("taker", 9)]) (g := gName 9) rfl scBInit.nd (pi_list (pv 8)) (blkOk_by (N := nBInit) (sc := dBookInit.scope) (by decide +kernel)) (fun _ _ _ _ _ => pg_name (i := 9) scBInit.nd rfl (.inl rfl))
          (fun _ _ _ _ _ => pts_one (pt_val (pc S2 hr (by decide) T.g_all_let pass0 (pa_cons (pv 2) (pa_cons (pv 7) (pa_cons (pv 9) pa_nil)))))) (fun _ _ _ _ _ => pv 9)) rfl))))
      (pss_cons (ps_fld (pv 0) (pv 1) rfl)
      (pss_cons (ps_fld (pv 0) (pe_callTy call_list_of (by rfl) T.f_list (by decide +kernel) (pa_cons (pv 2) pa_nil)) rfl)
      (pss_one (ps_fld (pv 0) (pv 6) rfl)))))))), ?_⟩
    obtain ⟨⟨d, dxp, hpa, hd⟩, hp⟩ := id hP
    refine ⟨_, rfl, _, _, _, _, true, rfl, .ty _, tyL hl, kit_ty (by decide +kernel), true, rfl, iteF ?_⟩
    refine ⟨_, rfl, _, ks.length, rfl, .inl ⟨_, hl, (refs_len _).symm⟩, _, _, rfl, rfl, _, rfl, ?_⟩
    have l1 : ¬ (40 : Int) < (ks.length : Int) := by omega
    rw [decide_eq_false l1]
    refine ⟨_, rfl, pa, dxp, _, rfl, hpa, fsParty_no p d (by decide +kernel) (by decide +kernel), pa, p, ps, cl, rfl, hP, ?_⟩
    refine ⟨_, rfl, l, _, rfl, hl, for_w (Wk.enum (xs := refs ks)) (fun i σ H' => ∃ v w, σ = [some (.ref x), some (.ref pa), some (.ref l), some (.ref p), v, w, none, none, none, none] ∧ Same H H') ⟨none, none, rfl, Same.refl H⟩ (fun i σ H' _ ⟨v, w, _, s⟩ => s.seq hl) ?_ ?_⟩
    · rintro i y σ H' H'' hi ⟨v, w, rfl, s⟩ ⟨q, z, rfl, hq', rfl, hz⟩
      obtain ⟨u, hu', rfl⟩ := refs_get hz
      have s1 : Same H (upd H' q (.tup [.int (i : Nat), .ref u.1])) := Same.new' s hq'
      have hm := List.mem_of_getElem? hu'
      refine ⟨q, _, rfl, SqT.of upd_same, rfl, _, _, rfl, _, _, rfl, rfl, ?_⟩
      refine ⟨_, rfl, _, rfl, p, u.1, ps, u.2, rfl, hp.sameT s1, (hk u hm).1.same s1, (hk u hm).2, fun H2 s2 => ⟨_, rfl, ?_⟩⟩
      exact ⟨_, _, rfl, s1.trans s2⟩
    · rintro σ H1 ⟨v, w, rfl, s1⟩
      intro fr hfr
      refine ⟨_, rfl, p, rfl, ⟨_, hp.sameT (Same.new' s1 hfr)⟩, ?_⟩
      refine for_w (Wk.tup (xs := ps.map V.str)) (fun i σ H' => ∃ v w v1 v2, σ = [some (.ref x), some (.ref pa), some (.ref l), some (.ref p), v, w, some (.ref fr), v1, v2, none] ∧ RowsB H1 H' fr ps (frow ps cl (ks.map (·.2))) i) ⟨v, w, none, none, rfl, RowsB.start hfr⟩
        (fun i σ H' _ ⟨_, _, _, _, _, r⟩ => hp.sameT (s1.trans r.same)) ?_ ?_
      · rintro i y σ H' H'' hi ⟨v, w, v1, v2, rfl, R⟩ ⟨rfl, hy⟩
        obtain ⟨g, hg, rfl⟩ := map_get hy
        have gin : g ∈ ps := List.mem_of_getElem? hg
        have s2 := s1.trans R.same
        refine ⟨_, rfl, pa, dxp, _, rfl, s2 _ _ hpa, fsParty_no p d (by decide +kernel) (by decide +kernel), _, rfl, pa, p, ps, cl, g, rfl, hP.same s2, ok, gin, fun H2 q s3 hq hq2 => ?_⟩
        refine ⟨_, rfl, q, rfl, ⟨_, SqL.of hq2⟩, fun D hD => ?_⟩
        refine lco_w (Wk.list (xs := ((srt ps).filter (mayB cl g)).map V.str)) (fun j H3 => Same H2 H3 ∧ H3 D = some (.lst (((((srt ps).filter (mayB cl g)).take j).filter fun t => (ks.map (·.2)).all fun k => letB k g t).map V.str))) ⟨Same.new hD, upd_same⟩ (fun j H3 _ p => p.1.seq (SqL.of hq2)) ?_ ?_
        · rintro j y H4 H4' hj ⟨s4, d4⟩ ⟨rfl, hy⟩
          obtain ⟨t, ht, rfl⟩ := map_get hy
          have s5 := s2.trans (s3.trans s4)
          refine ⟨rfl, _, rfl, _, rfl, _, rfl, l, ks, g, t, rfl, s5.seq hl, fun q hq => (hk q hq).1.same s5, _, rfl, ?_⟩
          have e : (ks.all fun q => letB q.2 g t) = (ks.map (·.2)).all fun k => letB k g t := by rw [List.all_map]; rfl
          rw [e]
          have fs := filter_snoc (p := fun t => (ks.map (·.2)).all fun k => letB k g t) ht
          cases c : (ks.map (·.2)).all fun k => letB k g t with
          | true =>
            refine iteT ?_
            rw [if_pos c] at fs
            refine ⟨_, rfl, _, d4, ?_, Same.mut s4 hD, ?_⟩
            · rw [List.length_map]
              have h1 := List.length_filter_le (fun t => (ks.map (·.2)).all fun k => letB k g t) (((srt ps).filter (mayB cl g)).take j)
              have h2 := List.length_filter_le (mayB cl g) (srt ps)
              rw [List.length_take] at h1
              rw [srt_len ok.nd] at h2
              have := ok.hi
              exact sz1000 (by omega)
            · rw [upd_same, fs, List.map_append]
              rfl
          | false =>
            refine iteF ⟨s4, ?_⟩
            rw [if_neg (by rw [c]; decide)] at fs
            rw [fs, List.append_nil]
            exact d4
        · rintro H4 ⟨s4, d4⟩
          rw [List.length_map, List.take_length] at d4
          obtain ⟨H5, put5, R5⟩ := (R.ext (s3.trans s4)).next hg ok.nd (by have := ok.hi; omega) hfr d4
          exact ⟨_, rfl, _, rfl, fr, H5, rfl, put5, v, w, _, _, rfl, R5⟩
      · rintro σ H2 ⟨v, w, v1, v2, rfl, R⟩
        rw [List.length_map] at R
        obtain ⟨ad, RU⟩ := R.fin
        have s2 := s1.trans R.same
        refine ⟨_, rfl, _, rfl, x, _, dx, [], rfl, s2 _ _ hx, T.c_Book, T.n_Book_party, by decide, ?_⟩
        generalize e3 : upd H2 x (.ins (He.ga K "Book") dx (putF "_party" (.ref pa) [])) = H3
        have b3 : But [x] H2 H3 := by rw [← e3]; exact But.at (by simp)
        have i3 : H3 x = some (.ins (He.ga K "Book") dx (putF "_party" (.ref pa) [])) := by rw [← e3]; exact upd_same
        have hl3 : SqL K H3 l (refs ks) := b3.sqL (s2 _ _ hx) (s2.seq hl)
        refine ⟨_, rfl, l, _, rfl, .inl hl3, fun lk hlk => ?_⟩
        have i4 : (upd H3 lk (.lst (refs ks))) x = some (.ins (He.ga K "Book") dx (putF "_party" (.ref pa) [])) := Same.new hlk _ _ i3
        refine ⟨_, rfl, x, _, dx, _, rfl, i4, T.c_Book, T.n_Book_leaks, ?_, ?_⟩
        · have := length_putF "_party" (.ref pa) []
          simp at this
          omega
        have b5 : But [x] H2 (upd (upd H3 lk (.lst (refs ks))) x (.ins (He.ga K "Book") dx (putF "_leaks" (.ref lk) (putF "_party" (.ref pa) [])))) := (b3.trans (But.of (Same.new hlk))).trans (But.at (by simp))
        refine ⟨_, rfl, _, rfl, x, _, dx, _, rfl, upd_same, T.c_Book, T.n_Book_rows, ?_, ?_⟩
        · have h1 := length_putF "_party" (.ref pa) []
          have h2 := length_putF "_leaks" (.ref lk) (putF "_party" (.ref pa) [])
          simp at h1
          omega
        have b6 := b5.trans (But.at (S := [x]) (p := x) (o := .ins (He.ga K "Book") dx (putF "_rows" (.ref fr) (putF "_leaks" (.ref lk) (putF "_party" (.ref pa) [])))) (by simp))
        have hx2 := s2 _ _ hx
        refine k _ ((But.of s2).trans b6) ⟨⟨lk, fr, dx, ad, upd_same, ?_, fun g hg => b6.rdx hx2 (fun _ _ _ z => by cases z) (RU.ls g hg)⟩, (hP.same s2).but b6 hx2 ne⟩
        exact b6 _ _ (fun m => not_ins hx2 RU.dk (fun _ _ _ z => by cases z) (List.mem_singleton.mp m)) RU.dk
theorem ok_bparty (T : Tx K mg) : Ok P w K mg base CX0 1 dBookParty ["self"] (spBParty K) := by
  refine Ok.mk0 T _ ixBookParty scBParty (fun _ _ _ _ _ _ us hl => match us, hl with | [_], _ => rfl) (fun vs H Q E h => ?_) (fun f cdv A outer st H vs Q E hr h => ?_)
  · obtain ⟨x, pa, p, ps, cl, rw_, rfl, _⟩ := h
    rfl
  · obtain ⟨x, pa, p, ps, cl, rw_, rfl, ⟨⟨lk, r, dx, ad, hx, hr'⟩, hp⟩, k⟩ := h
    refine ⟨_, pss_one (ps_ret (pe_fld (pv 0) rfl)), ?_⟩
    exact ⟨_, rfl, x, _, dx, _, _, rfl, hx, T.c_Book, T.n_Book_party, fsBook_party pa lk r, k⟩
theorem ok_brows (T : Tx K mg) : Ok P w K mg base CX0 1 dBookRows ["self"] (spBRows K) := by
  refine Ok.mk0 T _ ixBookRows scBRows (fun _ _ _ _ _ _ us hl => match us, hl with | [_], _ => rfl) (fun vs H Q E h => ?_) (fun f cdv A outer st H vs Q E hr h => ?_)
  · obtain ⟨x, pa, p, ps, cl, rw_, rfl, _⟩ := h
    rfl
  · have hu := hu_of hr
    obtain ⟨x, pa, p, ps, cl, rw_, rfl, ⟨⟨lk, r, dx, ad, hx, R⟩, hp⟩, ok, k⟩ := h
    refine ⟨_, pss_one (ps_ret (pe_lock (pe_dg (own := [("giver", 1)]) (o := .dK []) (g := gName 1) (tt := tYes) hu rfl scBRows.nd (pi_keys (pe_fld (pv 0) rfl)) (blkOk_by (N := nBRows) (sc := dBookRows.scope) (by decide +kernel))
          (fun _ _ _ _ _ => pg_name (i := 1) scBRows.nd rfl (.inl rfl)) (fun _ _ _ _ _ => pts_nil) (fun _ _ _ _ _ => pv 1) (fun _ _ _ _ _ => pe_callTy (T := "list") (call_list_ofK (K := K) rfl) (by rfl) T.f_list (by decide +kernel) (pa_cons (pe_dget hu (pe_fldK (K := K) rfl (pv 0)) (pv 1) (fun _ _ => rfl)) pa_nil))))), ?_⟩
    refine ⟨r, _, R.dk, trivial, fun od => ?_⟩
    have frz : (upd H r (.frz od (.dK (mp ks V.ref (ps.map fun g => (g, ad g)))))) r = some (.frz od (.dK (mp ks V.ref (ps.map fun g => (g, ad g))))) := upd_same
    have hxr : r ≠ x := not_ins hx R.dk fun _ _ _ z => by cases z
    have hx1 : (upd H r (.frz od (.dK (mp ks V.ref (ps.map fun g => (g, ad g)))))) x = some (.ins (He.ga K "Book") dx (fsBook pa lk r)) := by rw [upd_ne (Ne.symm hxr)]; exact hx
    refine ⟨_, rfl, x, _, dx, _, _, rfl, hx1, T.c_Book, T.n_Book_rows, fsBook_rows pa lk r, r, od, rfl, .inl ⟨_, frz, fun D hD => ?_⟩⟩
    have hDr : D ≠ r := fun e => by rw [e, upd_same] at hD; cases hD
    refine turns_w Wk.keys (fun i H' => RowsB (upd H r (.frz od (.dK (mp ks V.ref (ps.map fun g => (g, ad g)))))) H' D ps rw_ i) (RowsB.start hD) (fun i H' _ p => p.same _ _ upd_same) ?_ ?_
    · rintro i y H2 H2' hi RB ⟨rfl, q, hq, rfl⟩
      obtain ⟨g, hg, rfl⟩ : ∃ g, ps[i]? = some g ∧ q = (g, ad g) := by
        rw [List.getElem?_map] at hq
        cases e : ps[i]? with
        | none => rw [e] at hq; cases hq
        | some g => rw [e] at hq; exact ⟨g, rfl, (Option.some.inj hq).symm⟩
      have gin : g ∈ ps := List.mem_of_getElem? hg
      have Ra : RowsAt H2' r ps ad rw_ := (R.at.lq (Lq.lock od R.dk trivial)).same RB.same
      refine ⟨rfl, yesT ?_⟩
      refine ⟨_, rfl, _, rfl, x, _, dx, _, _, rfl, RB.same _ _ hx1, T.c_Book, T.n_Book_rows, fsBook_rows pa lk r, _, rfl, r, _, rfl, Ra.get gin, ad g, _, rfl, .inl (Ra.seq gin), fun l hl => ?_⟩
      exact (RB.ext (Same.new hl)).next hg ok.nd (by have := ok.hi; omega) hD upd_same
    · rintro H2 RB
      rw [List.length_map] at RB
      refine ⟨RB.same _ _ upd_same, ?_⟩
      obtain ⟨ad2, RU⟩ := RB.fin
      have hDr2 : H D = none := by rw [upd_ne hDr] at hD; exact hD
      refine k _ D ad2 (Same.unlock R.dk RB.same) hDr2 ⟨by rw [upd_ne hDr]; exact RU.dk, fun g hg => ?_⟩
      have e := RU.ls g hg
      exact (Lq.unlock (RB.same _ _ upd_same)).rd _ _ trivial e
end
end GF

/- DFree -/
set_option Elab.async false
set_option linter.all false
set_option maxRecDepth 100000
set_option maxHeartbeats 4000000
namespace GF
open PySem PySem.Spec PyProof.Rows L2 GR
/-- rows of people, without repeats -/
structure RowOk (ps : List Str) (rw_ : Str → List Str) : Prop where
  nd : ∀ g, (rw_ g).Nodup
  sub : ∀ g t, t ∈ rw_ g → t ∈ ps
theorem RowOk.few {ps : List Str} {rw_ : Str → List Str} (h : RowOk ps rw_) (ok : PeopleOk ps) (g : Str) : (rw_ g).length ≤ 24 := Nat.le_trans (len_le_of_sub (h.nd g) (h.sub g)) ok.hi
theorem RowOk.tab {ps : List Str} {rw_ : Str → List Str} (h : RowOk ps rw_) (ok : PeopleOk ps) : Tab ps ps rw_ := ⟨ok.nd, fun g t _ => h.sub g t, ok.hi, ok.hi⟩
theorem frow_ok {ps : List Str} (ok : PeopleOk ps) (cl : List (Str × Str)) (ks : List Lk) : RowOk ps (frow ps cl ks) :=
  ⟨fun g => (((srt_srt ok.nd).nd.filter _).filter _), fun g t h => mem_srt.mp (List.mem_filter.mp (List.mem_filter.mp h).1).1⟩
/-- all the free pairs, giver by giver -/
def flat (gs : List Str) (rw_ : Str → List Str) : List (Str × Str) := gs.flatMap fun g => (rw_ g).map fun t => (g, t)
theorem mem_flat {gs : List Str} {rw_ : Str → List Str} {q : Str × Str} : q ∈ flat gs rw_ ↔ q.1 ∈ gs ∧ q.2 ∈ rw_ q.1 := by
  unfold flat
  rw [List.mem_flatMap]
  constructor
  · rintro ⟨g, hg, m⟩
    obtain ⟨t, ht, rfl⟩ := List.mem_map.mp m
    exact ⟨hg, ht⟩
  · rintro ⟨h1, h2⟩
    exact ⟨q.1, h1, List.mem_map.mpr ⟨q.2, h2, rfl⟩⟩
theorem flat_len {rw_ : Str → List Str} (h : ∀ g, (rw_ g).length ≤ 24) : ∀ gs : List Str, (flat gs rw_).length ≤ 24 * gs.length
  | [] => by simp [flat]
  | g :: l => by
    have ih := flat_len h l
    unfold flat at ih ⊢
    rw [List.flatMap_cons, List.length_append, List.length_map, List.length_cons]
    have := h g
    omega
theorem flat_snoc {gs : List Str} {rw_ : Str → List Str} {i : Nat} {g : Str} (hg : gs[i]? = some g) : flat (gs.take (i + 1)) rw_ = flat (gs.take i) rw_ ++ (rw_ g).map fun t => (g, t) := by
  unfold flat
  rw [take_snoc hg, List.flatMap_append]
  simp
def spBFree (K : PySem.W.Frag) : Sp := fun vs H Q _ => ∃ (x pa p : Addr) (ps : List Str) (cl : List (Str × Str)) (rw_ : Str → List Str), vs = [.ref x] ∧ BookAt K H x pa p ps cl rw_ ∧ PeopleOk ps ∧ RowOk ps rw_ ∧
  ∀ H' l qs, Same H H' → H l = none → H' l = some (.lst (refs qs)) → PairsAt H' qs → qs.length ≤ 576 → (∀ q, q ∈ qs.map (·.2) ↔ q.1 ∈ ps ∧ q.2 ∈ rw_ q.1) → Q (.ref l) H'
abbrev nBFree : List Str := ["self", "giver", "taker"]
theorem scBFree : FnScope nBFree ["self"] dBookFree.scope := ⟨rfl, rfl, rfl, by decide +kernel, rfl, by decide +kernel, by decide +kernel⟩
def spDrawing (K : PySem.W.Frag) : Sp := fun vs H Q _ => ∃ (x pa p : Addr) (ps : List Str) (cl : List (Str × Str)) (rw_ : Str → List Str), vs = [.ref x] ∧ BookAt K H x pa p ps cl rw_ ∧ PeopleOk ps ∧ RowOk ps rw_ ∧
  (∀ H' d f, Same H H' → H' d = some (dF ps f) → PM ps rw_ f → Q (.ref d) H') ∧ (∀ H', Same H H' → (¬ ∃ f, PM ps rw_ f) → Q .non H')
abbrev nDrawing : List Str := ["book"]
theorem scDrawing : FnScope nDrawing ["book"] dDrawing.scope := ⟨rfl, rfl, rfl, by decide +kernel, rfl, by decide +kernel, by decide +kernel⟩
def spLack (K : PySem.W.Frag) : Sp := fun vs H Q _ => ∃ (x pa p : Addr) (ps : List Str) (cl : List (Str × Str)) (rw_ : Str → List Str), vs = [.ref x] ∧ BookAt K H x pa p ps cl rw_ ∧ PeopleOk ps ∧ RowOk ps rw_ ∧ (¬ ∃ f, PM ps rw_ f) ∧ ∀ H' a, Same H H' → Q (.ref a) H'
abbrev nLack : List Str := ["book", "rows", "givers"]
theorem scLack : FnScope nLack ["book"] dLack.scope := ⟨rfl, rfl, rfl, by decide +kernel, rfl, by decide +kernel, by decide +kernel⟩
section
variable {P : Program} {w : World} {K : PySem.W.Frag} {mg : Str → Option Value} {base : Heap}
theorem ok_bfree (T : Tx K mg) : Ok P w K mg base CX0 1 dBookFree ["self"] (spBFree K) := by
  refine Ok.mk0 T _ ixBookFree scBFree (fun _ _ _ _ _ _ us hl => match us, hl with | [_], _ => rfl) (fun vs H Q E h => ?_) (fun f cdv A outer st H vs Q E hr h => ?_)
  · obtain ⟨x, pa, p, ps, cl, rw_, rfl, _⟩ := h
    rfl
  · have hu := hu_of hr
    obtain ⟨x, pa, p, ps, cl, rw_, rfl, ⟨⟨lk, r, dx, ad, hx, R⟩, hp⟩, ok, ro, k⟩ := h
    refine ⟨_, pss_one (ps_ret (pe_callB cr_sortedP (by rfl) T.f_sorted (by decide +kernel) (pa_cons (pe_lock (pe_lc2 (own := [("giver", 1), ("taker", 2)]) (vs1 := [2]) (g := gName 1) (tt := tYes) (g1 := gName 2) (tt1 := tYes) rfl scBFree.nd (pi_keys (pe_fld (pv 0) rfl)) (blkOk_by (N := nBFree) (sc := dBookFree.scope) (by decide +kernel)) (by decide)
          (fun _ _ _ _ _ => pg_name (i := 1) scBFree.nd rfl (.inl rfl)) (fun _ _ _ _ _ => pts_nil) (fun _ _ _ _ _ => pi_listK (K := K) rfl (pe_dget hu (pe_fldK (K := K) rfl (pv 0)) (pv 1) (fun _ _ => rfl)))
          (fun _ _ _ _ _ => pg_name (i := 2) scBFree.nd rfl (.inl rfl)) (fun _ _ _ _ _ => pts_nil) (fun _ _ _ _ _ => pe_tup (pa_cons (pv 1) (pa_cons (pv 2) pa_nil))))) pa_nil))), ?_⟩
    refine ⟨r, _, R.dk, trivial, fun od => ?_⟩
    have hxr : r ≠ x := not_ins hx R.dk fun _ _ _ z => by cases z
    generalize eF : upd H r (.frz od (.dK (mp ks V.ref (ps.map fun g => (g, ad g))))) = Hf
    have frz : Hf r = some (.frz od (.dK (mp ks V.ref (ps.map fun g => (g, ad g))))) := by rw [← eF]; exact upd_same
    have hx1 : Hf x = some (.ins (He.ga K "Book") dx (fsBook pa lk r)) := by rw [← eF, upd_ne (Ne.symm hxr)]; exact hx
    have Rf : RowsAt Hf r ps ad rw_ := by rw [← eF]; exact R.at.lq (Lq.lock od R.dk trivial)
    refine ⟨_, rfl, x, _, dx, _, _, rfl, hx1, T.c_Book, T.n_Book_rows, fsBook_rows pa lk r, r, od, rfl, .inl ⟨_, frz, fun D hD => ?_⟩⟩
    have lenq : ∀ {qs : List (Addr × (Str × Str))} {l m : List (Str × Str)}, qs.map (·.2) = l ++ m → l.length ≤ 24 * 24 → m.length ≤ 24 → qs.length ≤ 600 := fun e h1 h2 => by
      have := congrArg List.length e
      rw [List.length_map, List.length_append] at this
      omega
    have lenf : ∀ i, (flat (ps.take i) rw_).length ≤ 24 * 24 := fun i => by
      have h1 := flat_len (ro.few ok) (ps.take i)
      have := ok.hi
      rw [List.length_take] at h1
      omega
    refine lco_w Wk.keys (fun i H' => ∃ qs, Same Hf H' ∧ H' D = some (.lst (refs qs)) ∧ PairsAt H' qs ∧ qs.map (·.2) = flat (ps.take i) rw_) ⟨[], Same.new hD, upd_same, fun q m => absurd m (by simp), rfl⟩ (fun i H' _ ⟨qs, s, _⟩ => s _ _ frz) ?_ ?_
    · rintro i y H2 H2' hi ⟨qs, s2, d2, q2, e2⟩ ⟨rfl, q, hq, rfl⟩
      obtain ⟨g, hg, rfl⟩ : ∃ g, ps[i]? = some g ∧ q = (g, ad g) := by
        rw [List.getElem?_map] at hq
        cases e : ps[i]? with
        | none => rw [e] at hq; cases hq
        | some g => rw [e] at hq; exact ⟨g, rfl, (Option.some.inj hq).symm⟩
      have gin : g ∈ ps := List.mem_of_getElem? hg
      refine ⟨rfl, yesT ?_⟩
      refine ⟨_, rfl, x, _, dx, _, _, rfl, s2 _ _ hx1, T.c_Book, T.n_Book_rows, fsBook_rows pa lk r, _, rfl, r, _, rfl, (Rf.same s2).get gin, ad g, rfl, ⟨_, (Rf.same s2).seq gin⟩, ?_⟩
      refine lco_w (Wk.list (xs := (rw_ g).map V.str)) (fun j H' => ∃ qs, Same Hf H' ∧ H' D = some (.lst (refs qs)) ∧ PairsAt H' qs ∧ qs.map (·.2) = flat (ps.take i) rw_ ++ ((rw_ g).take j).map fun t => (g, t)) ⟨qs, s2, d2, q2, by rw [e2]; simp⟩ (fun i H' _ ⟨qs, s, _⟩ => (Rf.same s).seq gin) ?_ ?_
      · rintro j y H3 H3' hj ⟨qs3, s3, d3, q3, e3⟩ ⟨rfl, hy⟩
        obtain ⟨t, ht, rfl⟩ := map_get hy
        refine ⟨rfl, yesT ?_⟩
        refine ⟨_, rfl, _, rfl, by show 2 ≤ sizeLine; decide, fun a ha => ?_⟩
        have nD : D ≠ a := ne_of_none d3 ha
        refine ⟨refs qs3, by rw [upd_ne nD]; exact d3, ?_, qs3 ++ [(a, (g, t))], Same.mut (Same.new' s3 ha) hD, by rw [upd_same]; unfold refs; rw [List.map_append]; rfl, fun q hq => ?_, ?_⟩
        · have l1 := lenq e3 (lenf i) (by rw [List.length_map, List.length_take]; have := ro.few ok g; omega)
          rw [refs_len]
          exact sz1000 (by omega)
        · rcases List.mem_append.mp hq with m | m
          · have e := q3 q m
            have h1 : q.1 ≠ D := fun z => by rw [z, d3] at e; cases e
            have h2 : q.1 ≠ a := fun z => by rw [z, ha] at e; cases e
            rw [upd_ne h1, upd_ne h2]
            exact e
          · rw [List.mem_singleton.mp m]
            show upd (upd H3' a _) D _ a = _
            rw [upd_ne (Ne.symm nD), upd_same]
        · rw [List.map_append, e3, take_snoc ht, List.map_append, List.append_assoc]
          rfl
      · rintro H3 ⟨qs3, s3, d3, q3, e3⟩
        rw [List.length_map, List.take_length] at e3
        exact ⟨qs3, s3, d3, q3, by rw [e3, flat_snoc hg]⟩
    · rintro H2 ⟨qs, s2, d2, q2, e2⟩
      rw [List.length_map, List.take_length] at e2
      have nDr : D ≠ r := fun e => by rw [e, frz] at hD; cases hD
      have sU : Same H (upd H2 r (.dK (mp ks V.ref (ps.map fun g => (g, ad g))))) := Same.unlock R.dk (by rw [eF]; exact s2)
      refine ⟨s2 _ _ frz, ?_⟩
      have nq : ∀ q, q ∈ qs → q.1 ≠ r := fun q m z => by
        have e := q2 q m
        rw [z, s2 _ _ frz] at e
        cases e
      have q3 : PairsAt (upd H2 r (.dK (mp ks V.ref (ps.map fun g => (g, ad g))))) qs := fun q m => by rw [upd_ne (nq q m)]; exact q2 q m
      have len : qs.length ≤ 576 := by
        have e := congrArg List.length e2
        have h1 := flat_len (ro.few ok) ps
        have := ok.hi
        rw [List.length_map] at e
        omega
      refine ⟨D, qs, rfl, SqL.of (by rw [upd_ne nDr]; exact d2), q3, fun zs l pm hl => ?_⟩
      have s4 := Same.new' (o := .lst (refs zs)) sU hl
      refine k _ l zs s4 (sU.free hl) upd_same (fun q m => ?_) (by rw [pm.length_eq]; exact len) fun q => ?_
      · have e := q3 q (pm.mem_iff.mp m)
        rw [upd_ne (ne_of_none e hl)]
        exact e
      · rw [(pm.map (·.2)).mem_iff, e2]
        exact mem_flat
theorem ok_drawing (T : Tx K mg) : Ok P w K mg base CX0 27 dDrawing ["book"] (spDrawing K) := by
  have S := ok_paired (P := P) (w := w) (base := base) T
  obtain ⟨fdR, FR, bR⟩ := (ok_brows (P := P) (w := w) (base := base) T).ex
  refine Ok.mk0 T _ ixDrawing scDrawing (fun _ _ _ _ _ _ us hl => match us, hl with | [_], _ => rfl) (fun vs H Q E h => ?_) (fun f cdv A outer st H vs Q E hr h => ?_)
  · obtain ⟨x, pa, p, ps, cl, rw_, rfl, _⟩ := h
    rfl
  · obtain ⟨x, pa, p, ps, cl, rw_, rfl, B, ok, ro, k1, k2⟩ := h
    refine ⟨_, pss_one (ps_ret (pc S hr (by decide) T.g_paired pass0 (pa_cons (pe_meth0 (pv 0) T.c_Book T.m_Book_rows FR (hr.mono (by decide)) bR .nil pass0) pa_nil))), ?_⟩
    obtain ⟨⟨lk, r, dx, ad, hx, R⟩, hp⟩ := id B
    refine ⟨_, rfl, x, dx, _, rfl, hx, fsBook_no pa lk r (by decide +kernel) (by decide +kernel) (by decide +kernel), x, pa, p, ps, cl, rw_, rfl, B, ok, fun H1 r1 ad1 s1 _ R1 => ?_⟩
    exact ⟨r1, ps, ps, ad1, rw_, rfl, R1, ro.tab ok, fun H' d f s2 _ hd pm => k1 H' d f (s1.trans s2) hd pm, fun H' s2 no => k2 H' (s1.trans s2) no⟩
theorem ok_lack (T : Tx K mg) : Ok P w K mg base CX0 27 dLack ["book"] (spLack K) := by
  have S1 := ok_short (P := P) (w := w) (base := base) T
  have S2 := ok_takers (P := P) (w := w) (base := base) T
  obtain ⟨fdR, FR, bR⟩ := (ok_brows (P := P) (w := w) (base := base) T).ex
  refine Ok.mk0 T _ ixLack scLack (fun _ _ _ _ _ _ us hl => match us, hl with | [_], _ => rfl) (fun vs H Q E h => ?_) (fun f cdv A outer st H vs Q E hr h => ?_)
  · obtain ⟨x, pa, p, ps, cl, rw_, rfl, _⟩ := h
    rfl
  · obtain ⟨x, pa, p, ps, cl, rw_, rfl, B, ok, ro, no, k⟩ := h
    refine ⟨_, pss_cons (ps_set (i := 1) scLack.nd rfl (.inl rfl) (pe_meth0 (pv 0) T.c_Book T.m_Book_rows FR (hr.mono (by decide)) bR .nil pass0))
      (pss_cons (ps_set (i := 2) scLack.nd rfl (.inl rfl) (pc S1 hr (by decide) T.g_short_lot pass0 (pa_cons (pv 1) pa_nil)))
      (pss_cons (ps_if (pt_cmpR op_isN (pv 2) pe_non (nomark _)) pss_never pss_nil)
      (pss_one (ps_ret (pe_tup (pa_cons (pe_callTy (T := "tuple") call_tuple_of (by rfl) T.f_tuple (by decide +kernel) (pa_cons (pv 2) pa_nil))
        (pa_cons (pe_callTy (T := "tuple") call_tuple_of (by rfl) T.f_tuple (by decide +kernel) (pa_cons (pc S2 hr (by decide) T.g_takers_of pass0 (pa_cons (pv 1) (pa_cons (pv 2) pa_nil))) pa_nil)) pa_nil))))))), ?_⟩
    obtain ⟨⟨lk, r, dx, ad, hx, R⟩, hp⟩ := id B
    refine ⟨_, rfl, x, dx, _, rfl, hx, fsBook_no pa lk r (by decide +kernel) (by decide +kernel) (by decide +kernel), x, pa, p, ps, cl, rw_, rfl, B, ok, fun H1 r1 ad1 s1 _ R1 => ?_⟩
    refine ⟨_, rfl, r1, ps, ps, ad1, rw_, rfl, R1, ro.tab ok, fun H2 l lot nb s2 _ hl sl ha => ?_, fun H2 f s2 pm => absurd ⟨f, pm⟩ no⟩
    refine ⟨_, rfl, rfl, _, rfl, iteF ?_⟩
    refine ⟨_, rfl, l, _, rfl, .inl ⟨SqL.of hl, fun t1 ht1 => ?_⟩⟩
    have s3 : Same H2 (upd H2 t1 (.tup (lot.map V.str))) := Same.new ht1
    refine ⟨_, rfl, _, rfl, r1, l, ps, ps, lot, ad1, rw_, rfl, (R1.at.same s2).same s3, ro.tab ok, s3.seq (SqL.of hl), ha.sub, fun H4 q ts s4 _ hq st mem => ?_⟩
    refine ⟨q, _, rfl, .inl ⟨SqL.of hq, fun t2 ht2 => ?_⟩⟩
    refine ⟨by show 2 ≤ sizeLine; decide, fun a ha' => k _ a ?_⟩
    exact Same.new' (Same.new' (((s1.trans s2).trans s3).trans s4) ht2) ha'
end
end GF

/- DPrice -/
set_option Elab.async false
set_option linter.all false
set_option maxRecDepth 100000
set_option maxHeartbeats 4000000
namespace GF
open PySem PySem.Spec PyProof.Rows L2 GR
abbrev top_ : Int := 1000000000000000000000000000000
/-- prices of a book: each free pair has one, none stands for a closed pair -/
structure PrOk (ps : List Str) (cl : List (Str × Str)) (rw_ : Str → List Str) (es : List ((Str × Str) × Int)) (pr : Str → Str → Int) : Prop where
  nd : (keys es).Nodup
  op : ∀ q, q ∈ keys es → q.1 ≠ q.2 ∧ q.1 ∈ ps ∧ q.2 ∈ ps ∧ (q.1, q.2) ∉ cl
  all : ∀ g t, g ∈ ps → t ∈ rw_ g → gt es (g, t) = some (pr g t)
  rng : ∀ q v, gt es q = some v → 0 ≤ v ∧ v ≤ top_
  few : es.length ≤ 576
abbrev dP (es : List ((Str × Str) × Int)) : HO := .dT (mp k2 V.int es)
def spInteger : Sp := fun vs H Q _ => ∃ n : Int, vs = [.int n] ∧ Q (.bl true) H
abbrev nInteger : List Str := ["value"]
theorem scInteger : FnScope nInteger ["value"] dIsInteger.scope := ⟨rfl, rfl, rfl, by decide +kernel, rfl, by decide +kernel, by decide +kernel⟩
def spPrice : Sp := fun vs H Q _ => ∃ n : Int, vs = [.int n] ∧ 0 ≤ n ∧ n ≤ top_ ∧ Q (.bl true) H
theorem scPrice : FnScope nInteger ["value"] dIsPrice.scope := ⟨rfl, rfl, rfl, by decide +kernel, rfl, by decide +kernel, by decide +kernel⟩
def spCheckP (K : PySem.W.Frag) : Sp := fun vs H Q _ => ∃ (x pa p d : Addr) (ps : List Str) (cl : List (Str × Str)) (rw_ : Str → List Str) (es : List ((Str × Str) × Int)) (pr : Str → Str → Int), vs = [.ref x, .ref d] ∧ BookAt K H x pa p ps cl rw_ ∧ PeopleOk ps ∧ RowOk ps rw_ ∧
  H d = some (dP es) ∧ PrOk ps cl rw_ es pr ∧ ∀ H', Same H H' → Q .non H'
abbrev nCheckP : List Str := ["book", "prices", "party", "key", "wrong", "pair"]
theorem scCheckP : FnScope nCheckP ["book", "prices"] dCheckPrices.scope := ⟨rfl, rfl, rfl, by decide +kernel, rfl, by decide +kernel, by decide +kernel⟩
def spUpTo (K : PySem.W.Frag) : Sp := fun vs H Q _ => ∃ (r d : Addr) (ps : List Str) (ad : Str → Addr) (rw_ : Str → List Str) (es : List ((Str × Str) × Int)) (pr : Str → Str → Int) (most : Int), vs = [.ref r, .ref d, .int most] ∧ RowsU H r ps ad rw_ ∧ PeopleOk ps ∧ RowOk ps rw_ ∧
  Rd H d (dP es) ∧ (∀ g t, g ∈ ps → t ∈ rw_ g → gt es (g, t) = some (pr g t)) ∧ ∀ H' r' ad', Same H H' → RowsU H' r' ps ad' (upTo rw_ pr most) → Q (.ref r') H'
abbrev nUpTo : List Str := ["rows", "prices", "most", "giver", "taker"]
theorem scUpTo : FnScope nUpTo ["rows", "prices", "most"] dRowsUpTo.scope := ⟨rfl, rfl, rfl, by decide +kernel, rfl, by decide +kernel, by decide +kernel⟩
theorem RowOk.upTo {ps : List Str} {rw_ : Str → List Str} (h : RowOk ps rw_) (pr : Str → Str → Int) (m : Int) : RowOk ps (upTo rw_ pr m) := ⟨fun g => (h.nd g).filter _, fun g t ht => h.sub g t (mem_upTo.mp ht).1⟩
section
variable {P : Program} {w : World} {K : PySem.W.Frag} {mg : Str → Option Value} {base : Heap}
theorem ok_integer (T : Tx K mg) : Ok P w K mg base CX0 1 dIsInteger ["value"] spInteger := by
  refine Ok.mk0 T _ ixIsInteger scInteger (fun _ _ _ _ _ _ us hl => match us, hl with | [_], _ => rfl) (fun vs H Q E h => ?_) (fun f cdv A outer st H vs Q E hr h => ?_)
  · obtain ⟨n, rfl, _⟩ := h
    rfl
  · obtain ⟨n, rfl, k⟩ := h
    refine ⟨_, pss_one (ps_ret (pe_and (pe_callB call_isi (by rfl) T.f_isinstance (by decide +kernel) (pa_cons (pv 0) (pa_cons (pe_bltn (v := .ty "int") (by rfl) T.f_int (by decide +kernel) rfl) pa_nil)))
      (pe_one (pe_not (pe_callB call_isi (by rfl) T.f_isinstance (by decide +kernel) (pa_cons (pv 0) (pa_cons (pe_bltn (v := .ty "bool") (by rfl) T.f_bool (by decide +kernel) rfl) pa_nil))))))), ?_⟩
    refine ⟨_, rfl, _, _, _, _, true, rfl, .ty _, .base (.int n), kit_ty (by decide +kernel), true, rfl, iteT ?_⟩
    exact ⟨_, rfl, _, _, _, _, false, rfl, .ty _, .base (.int n), kit_ty (by decide +kernel), false, rfl, k⟩
theorem ok_price (T : Tx K mg) : Ok P w K mg base CX0 2 dIsPrice ["value"] spPrice := by
  have S := ok_integer (P := P) (w := w) (base := base) T
  refine Ok.mk0 T _ ixIsPrice scPrice (fun _ _ _ _ _ _ us hl => match us, hl with | [_], _ => rfl) (fun vs H Q E h => ?_) (fun f cdv A outer st H vs Q E hr h => ?_)
  · obtain ⟨n, rfl, _⟩ := h
    rfl
  · obtain ⟨n, rfl, lo, hi, k⟩ := h
    obtain ⟨tm, gm⟩ := T.i_MOST_PRICE
    refine ⟨_, pss_one (ps_ret (pe_and (pc S hr (by decide) T.g_is_integer pass0 (pa_cons (pv 0) pa_nil))
      (pe_one (pe_chain op_le op_le pe_int (pv 0) (pe_glob (v := .int (10 ^ 30)) rfl gm ⟨_, rfl⟩))))), ?_⟩
    refine ⟨_, rfl, n, rfl, true, rfl, iteT ?_⟩
    refine ⟨_, rfl, _, _, rfl, rfl, _, rfl, ?_⟩
    rw [decide_eq_true lo]
    refine iteT ⟨_, _, rfl, rfl, ?_⟩
    have hi' : n ≤ (10 : Int) ^ 30 := hi
    show Q (.bl (decide (n ≤ (10 : Int) ^ 30))) H
    rw [decide_eq_true hi']
    exact k
theorem ok_checkp (T : Tx K mg) : Ok P w K mg base CX0 5 dCheckPrices ["book", "prices"] (spCheckP K) := by
  have S1 := ok_price (P := P) (w := w) (base := base) T
  obtain ⟨fdP, FP, bP⟩ := (ok_bparty (P := P) (w := w) (base := base) T).ex
  obtain ⟨fdF, FF, bF⟩ := (ok_bfree (P := P) (w := w) (base := base) T).ex
  obtain ⟨fdC, FC, bC⟩ := (ok_pcont (P := P) (w := w) (base := base) T).ex
  refine Ok.mk0 T _ ixCheckPrices scCheckP (fun _ _ _ _ _ _ us hl => match us, hl with | [_, _], _ => rfl) (fun vs H Q E h => ?_) (fun f cdv A outer st H vs Q E hr h => ?_)
  · obtain ⟨x, pa, p, d, ps, cl, rw_, es, pr, rfl, _⟩ := h
    rfl
  · have hu := hu_of hr
    obtain ⟨x, pa, p, d, ps, cl, rw_, es, pr, rfl, B, ok, ro, hd, po, k⟩ := h
    refine ⟨_, pss_cons (ps_if (pt_not (pt_val (pe_callB call_isi (by rfl) T.f_isinstance (by decide +kernel) (pa_cons (pv 1) (pa_cons (pe_bltn (v := .ty "dict") (by rfl) T.f_dict (by decide +kernel) rfl) pa_nil))))) pss_never pss_nil)
      (pss_cons (ps_set (i := 2) scCheckP.nd rfl (.inl rfl) (pe_meth0 (pv 0) T.c_Book T.m_Book_party FP (hr.mono (by decide)) bP .nil pass0))
      (pss_cons (ps_lock (ps_for PassesOwn.never rfl (pi_keys (pv 1)) (pg_name (i := 3) scCheckP.nd rfl (.inl rfl))
        (pss_one (ps_if (pt_cmpR (op_notInO FC (hr.mono (by decide)) T.m_Party_contains.at_ T.m_Party_contains.fn bC pass0) (pv 3) (pv 2) rfl) pss_never pss_nil))))
      (pss_cons (ps_setLc (i := 4) (own := [("pair", 5)]) (g := gName 5) rfl scCheckP.nd rfl rfl (sw_true rfl rfl rfl rfl) (pi_list (pe_meth0 (pv 0) T.c_Book T.m_Book_free FF (hr.mono (by decide)) bF .nil pass0)) (blkOk_by (N := nCheckP) (sc := dCheckPrices.scope) (by decide +kernel))
          (fun _ _ _ _ _ => pg_name (i := 5) scCheckP.nd rfl (.inl rfl)) (fun _ _ _ _ _ => pts_one (pt_cmp (pc_dnotin hu (pv 5) (pv 1)) rfl)) (fun _ _ _ _ _ => pv 5))
      (pss_cons (ps_expr (pe_bm PySem.F.plainAttrs_list PySem.F.slot_list_extend PySem.F.type_list_extend mt_extend (pv 4) (pa_cons (pe_lock (pe_lc (own := [("pair", 5)]) (g := gName 5) rfl scCheckP.nd (pi_keys (pv 1)) (blkOk_by (N := nCheckP) (sc := dCheckPrices.scope) (by decide +kernel))
          (fun _ _ _ _ _ => pg_name (i := 5) scCheckP.nd rfl (.inl rfl)) (fun _ _ _ _ _ => pts_one (pt_not (pt_val (pc S1 hr (by decide) T.g_is_price pass0 (pa_cons (pe_dget hu (pv 1) (pv 5) (fun _ _ => rfl)) pa_nil))))) (fun _ _ _ _ _ => pv 5))) pa_nil)))
      (pss_one (ps_if (pt_truth (pv 4) (fun _ => rfl)) pss_never pss_nil)))))), ?_⟩
    obtain ⟨⟨lk, r, dx, ad, hx, R⟩, hP⟩ := id B
    refine ⟨_, rfl, _, _, _, _, true, rfl, .ty _, .base (.dT hd), kit_ty (by decide +kernel), true, rfl, iteF ?_⟩
    refine ⟨_, rfl, x, dx, _, rfl, hx, fsBook_no pa lk r (by decide +kernel) (by decide +kernel) (by decide +kernel), x, pa, p, ps, cl, rw_, rfl, B, ?_⟩
    refine ⟨d, _, hd, trivial, fun od => ?_⟩
    have hP1 := hP.lq (Lq.lock od hd trivial)
    have frz : (upd H d (.frz od (dP es))) d = some (.frz od (dP es)) := upd_same
    refine ⟨_, rfl, d, od, rfl, .inr ⟨_, frz, for_w Wk.keysT (fun i σ H' => ∃ v, σ = [some (.ref x), some (.ref d), some (.ref pa), v, none, none] ∧ Same (upd H d (.frz od (dP es))) H') ⟨none, rfl, Same.refl _⟩ (fun i σ H' _ ⟨v, _, s⟩ => s _ _ frz) ?_ ?_⟩⟩
    · rintro i y σ H' H'' hi ⟨v, rfl, s⟩ ⟨rfl, q, a, hq, rfl, ha⟩
      have qk : q.1 ∈ keys es := List.mem_map.mpr ⟨q, List.mem_of_getElem? hq, rfl⟩
      obtain ⟨⟨d2, dx2, hp2, hd2⟩, hp3⟩ := hP1.same s
      refine ⟨_, rfl, _, rfl, pa, dx2, _, rfl, hp2, pa, p, a, ps, cl, q.1.1, q.1.2, rfl, ⟨⟨d2, dx2, hp2, hd2⟩, hp3⟩, ha, fun H2 s2 => ⟨_, rfl, _, rfl, ?_⟩⟩
      rw [decide_eq_true (po.op q.1 qk)]
      exact ⟨_, rfl, s.trans s2⟩
    · rintro σ H1 ⟨v, rfl, s1⟩
      refine ⟨s1 _ _ frz, ?_⟩
      have sU : Same H (upd H1 d (dP es)) := Same.unlock hd s1
      generalize upd H1 d (dP es) = H2 at sU ⊢
      refine ⟨_, rfl, x, dx, _, rfl, sU _ _ hx, fsBook_no pa lk r (by decide +kernel) (by decide +kernel) (by decide +kernel), x, pa, p, ps, cl, rw_, rfl, B.same sU, ok, ro, fun H3 l qs s3 _ hl hqs len mem => ?_⟩
      have s13 := sU.trans s3
      refine ⟨l, rfl, ⟨_, SqL.of hl⟩, fun D hD => ?_⟩
      refine lco_w (Wk.list (xs := refs qs)) (fun j H' => Same H3 H' ∧ H' D = some (.lst [])) ⟨Same.new hD, upd_same⟩ (fun j H' _ p => p.1.seq (SqL.of hl)) ?_ ?_
      · rintro j y H4 H4' hj ⟨s4, d4⟩ ⟨rfl, hy⟩
        obtain ⟨q, hq, rfl⟩ := refs_get hy
        have qm := List.mem_of_getElem? hq
        have m2 := (mem q.2).mp (List.mem_map.mpr ⟨q, qm, rfl⟩)
        have g1 := dget_t (x := q.2) (.inl ((s13.trans s4) _ _ hd)) (s4 _ _ (hqs q qm))
        have e := po.all q.2.1 q.2.2 m2.1 m2.2
        rw [show gt es q.2 = some (pr q.2.1 q.2.2) from e] at g1
        exact ⟨rfl, _, rfl, _, rfl, d, _, rfl, g1, _, rfl, iteF ⟨s4, d4⟩⟩
      · rintro H4 ⟨s4, d4⟩
        have s14 := s13.trans s4
        refine ⟨_, rfl, .inl ⟨rfl, _, SqL.of d4⟩, ?_⟩
        refine ⟨d, _, s14 _ _ hd, trivial, fun od2 => ?_⟩
        have frz2 : (upd H4 d (.frz od2 (dP es))) d = some (.frz od2 (dP es)) := upd_same
        have nDd : D ≠ d := fun e => by rw [e, s14 _ _ hd] at d4; cases d4
        refine ⟨_, rfl, d, od2, rfl, .inr ⟨_, frz2, fun D2 hD2 => ?_⟩⟩
        have nD2d : D2 ≠ d := fun e => by rw [e, frz2] at hD2; cases hD2
        have hD24 : H4 D2 = none := by rw [upd_ne nD2d] at hD2; exact hD2
        refine lco_w Wk.keysT (fun j H' => Same (upd H4 d (.frz od2 (dP es))) H' ∧ H' D2 = some (.lst [])) ⟨Same.new hD2, upd_same⟩ (fun j H' _ p => p.1 _ _ frz2) ?_ ?_
        · rintro j y H5 H5' hj ⟨s5, d5⟩ ⟨rfl, q, a, hq, rfl, ha⟩
          have g0 : gt es q.1 = some q.2 := gt_of_mem po.nd (List.mem_of_getElem? hq)
          have g1 := dget_t (x := q.1) (h := V.int) (.inr ⟨od2, s5 _ _ frz2⟩) ha
          rw [g0] at g1
          have rg := po.rng q.1 q.2 g0
          exact ⟨rfl, _, rfl, _, rfl, d, _, rfl, g1, q.2, rfl, rg.1, rg.2, _, rfl, iteF ⟨s5, d5⟩⟩
        · rintro H5 ⟨s5, d5⟩
          refine ⟨s5 _ _ frz2, ?_⟩
          have s6 : Same H4 (upd H5 d (dP es)) := Same.unlock (s14 _ _ hd) s5
          refine ⟨D, D2, [], [], rfl, rfl, s6 _ _ d4, by rw [upd_ne nD2d]; exact d5, by decide, ?_⟩
          have s7 : Same H3 (upd (upd H5 d (dP es)) D (.lst [])) := Same.mut (s4.trans s6) hD
          refine ⟨_, rfl, false, .inl ⟨[], SqL.of upd_same, rfl⟩, iteF ?_⟩
          exact k _ (s13.trans s7)
theorem ok_upto (T : Tx K mg) : Ok P w K mg base CX0 1 dRowsUpTo ["rows", "prices", "most"] (spUpTo K) := by
  refine Ok.mk0 T _ ixRowsUpTo scUpTo (fun _ _ _ _ _ _ us hl => match us, hl with | [_, _, _], _ => rfl) (fun vs H Q E h => ?_) (fun f cdv A outer st H vs Q E hr h => ?_)
  · obtain ⟨r, d, ps, ad, rw_, es, pr, most, rfl, _⟩ := h
    rfl
  · have hu := hu_of hr
    obtain ⟨r, d, ps, ad, rw_, es, pr, most, rfl, R, ok, ro, hd, al, k⟩ := h
    refine ⟨_, pss_one (ps_ret (pe_lock (pe_dg (own := [("giver", 3)]) (o := .dK []) (g := gName 3) (tt := tYes) hu rfl scUpTo.nd (pi_keys (pv 0)) (blkOk_by (N := nUpTo) (sc := dRowsUpTo.scope) (by decide +kernel))
          (fun _ _ _ _ _ => pg_name (i := 3) scUpTo.nd rfl (.inr rfl)) (fun _ _ _ _ _ => pts_nil) (fun _ _ _ _ _ => pv 3)
          (fun _ _ _ _ _ => pe_lc (own := [("taker", 4)]) (g := gName 4) rfl scUpTo.nd (pi_listK (K := K) rfl (pe_dget hu (pv 0) (pv 3) (fun _ _ => rfl))) (blkOk_by (N := nUpTo) (sc := { kind := .function, names := [(".0", .local), ("giver", .cell), ("most", .cell), ("prices", .cell), ("rows", .cell)], isGenerator := false, isCoroutine := false }) (by decide +kernel))
            (fun _ _ _ _ _ => pg_name (i := 4) scUpTo.nd rfl (.inl rfl)) (fun _ _ _ _ _ => pts_one (pt_cmpR op_le (pe_dget hu (pv 1) (pe_tup (pa_cons (pv 3) (pa_cons (pv 4) pa_nil))) (fun _ _ => rfl)) (pv 2) (nomark _))) (fun _ _ _ _ _ => pv 4))))), ?_⟩
    refine ⟨r, _, R.dk, trivial, fun od => ?_⟩
    generalize eF : upd H r (.frz od (.dK (mp ks V.ref (ps.map fun g => (g, ad g))))) = Hf
    have frz : Hf r = some (.frz od (.dK (mp ks V.ref (ps.map fun g => (g, ad g))))) := by rw [← eF]; exact upd_same
    have Rf : RowsAt Hf r ps ad rw_ := by rw [← eF]; exact R.at.lq (Lq.lock od R.dk trivial)
    have hdf : Rd Hf d (dP es) := by rw [← eF]; exact (Lq.lock od R.dk trivial).rd _ _ trivial hd
    refine ⟨_, rfl, r, od, rfl, .inl ⟨_, frz, fun D hD => ?_⟩⟩
    have hDr : D ≠ r := fun e => by rw [e, frz] at hD; cases hD
    refine turns_w Wk.keys (fun i H' => RowsB Hf H' D ps (upTo rw_ pr most) i) (RowsB.start hD) (fun i H' _ p => p.same _ _ frz) ?_ ?_
    · rintro i y H2 H2' hi RB ⟨rfl, q, hq, rfl⟩
      obtain ⟨g, hg, rfl⟩ : ∃ g, ps[i]? = some g ∧ q = (g, ad g) := by
        rw [List.getElem?_map] at hq
        cases e : ps[i]? with
        | none => rw [e] at hq; cases hq
        | some g => rw [e] at hq; exact ⟨g, rfl, (Option.some.inj hq).symm⟩
      have gin : g ∈ ps := List.mem_of_getElem? hg
      have Ra := Rf.same RB.same
      refine ⟨rfl, yesT ?_⟩
      refine ⟨_, rfl, _, rfl, _, rfl, r, _, rfl, Ra.get gin, ad g, rfl, ⟨_, Ra.seq gin⟩, fun D2 hD2 => ?_⟩
      refine lco_w (Wk.list (xs := (rw_ g).map V.str)) (fun j H' => Same H2' H' ∧ H' D2 = some (.lst ((((rw_ g).take j).filter fun t => decide (pr g t ≤ most)).map V.str))) ⟨Same.new hD2, upd_same⟩ (fun j H' _ p => (Ra.same p.1).seq gin) ?_ ?_
      · rintro j y H3 H3' hj ⟨s3, d3⟩ ⟨rfl, hy⟩
        obtain ⟨t, ht, rfl⟩ := map_get hy
        have tin := List.mem_of_getElem? ht
        refine ⟨rfl, _, rfl, _, rfl, _, rfl, by show 2 ≤ sizeLine; decide, fun a ha => ?_⟩
        have s4 := Same.new' (o := .tup [.str g, .str t]) s3 ha
        have g1 := dget_t (x := (g, t)) (b := a) ((Lq.of (RB.same.trans s4)).rd _ _ trivial hdf) upd_same
        rw [al g t gin tin] at g1
        refine ⟨d, _, rfl, g1, _, rfl, _, _, rfl, rfl, _, rfl, ?_⟩
        have d4 : (upd H3' a (.tup [.str g, .str t])) D2 = some (.lst ((((rw_ g).take j).filter fun t => decide (pr g t ≤ most)).map V.str)) := Same.new ha _ _ d3
        have fs := filter_snoc (p := fun t => decide (pr g t ≤ most)) ht
        cases c : decide (pr g t ≤ most) with
        | true =>
          refine iteT ?_
          rw [if_pos c] at fs
          refine ⟨_, rfl, _, d4, ?_, Same.mut s4 hD2, ?_⟩
          · rw [List.length_map]
            have h1 := List.length_filter_le (fun t => decide (pr g t ≤ most)) ((rw_ g).take j)
            rw [List.length_take] at h1
            have := ro.few ok g
            exact sz1000 (by omega)
          · rw [upd_same, fs, List.map_append]
            rfl
        | false =>
          refine iteF ⟨s4, ?_⟩
          rw [if_neg (by rw [c]; decide)] at fs
          rw [fs, List.append_nil]
          exact d4
      · rintro H3 ⟨s3, d3⟩
        rw [List.length_map, List.take_length] at d3
        exact (RB.ext s3).next hg ok.nd (by have := ok.hi; omega) hD d3
    · rintro H2 RB
      rw [List.length_map] at RB
      refine ⟨RB.same _ _ frz, ?_⟩
      obtain ⟨ad2, RU⟩ := RB.fin
      refine k _ D ad2 (Same.unlock R.dk (by rw [eF]; exact RB.same)) ⟨by rw [upd_ne hDr]; exact RU.dk, fun g hg => ?_⟩
      exact (Lq.unlock (RB.same _ _ frz)).rd _ _ trivial (RU.ls g hg)
end
end GF

/- DGreat -/
set_option Elab.async false
set_option linter.all false
set_option maxRecDepth 100000
set_option maxHeartbeats 4000000
namespace GF
open PySem PySem.Spec PyProof.Rows L2 GR
def ki (n : Int) : Key := .inl n
theorem ki_inj : ∀ a b : Int, ki a = ki b → a = b := fun a b e => Sum.inl.inj e
theorem dput_i {H : Hp} {a : Addr} {l : List (Int × Bool)} (r : H a = some (.dK (mp ki V.bl l))) (x : Int) (v : Bool) (z : l.length < sizeLine) : DPut H a (.int x) (.bl v) (upd H a (.dK (mp ki V.bl (put l x v)))) := by
  rw [← putK_mp ki_inj V.bl l x v]
  exact DPut.k (k := ki x) r (by rw [mp_len]; exact z)
/-- the known prices as a dict -/
def knD (l : List Int) : List (Int × Bool) := l.foldl (fun acc n => put acc n true) []
theorem knD_snoc (l : List Int) (n : Int) : knD (l ++ [n]) = put (knD l) n true := by
  unfold knD
  rw [List.foldl_append]
  rfl
theorem knD_len : ∀ l : List Int, (knD l).length ≤ l.length := snoc_ind (by simp [knD]) fun l a ih => by
  rw [knD_snoc, List.length_append]
  have := put_len (knD l) a true
  simp
  omega
theorem knD_mem : ∀ (l : List Int) (n : Int), n ∈ keys (knD l) ↔ n ∈ l := snoc_ind (fun n => by simp [knD, keys]) fun l a ih n => by
  rw [knD_snoc, mem_keys_put, ih n, List.mem_append, List.mem_singleton]
  exact Or.comm
theorem mp_keysI (l : List (Int × Bool)) : (mp ki V.bl l).map (fun kv => kV kv.1) = (keys l).map V.int := by
  unfold mp keys
  rw [List.map_map, List.map_map]
  rfl
/-- no pairing up to any known price: none at all -/
theorem no_up {ps : List Str} {rw_ : Str → List Str} {pr : Str → Str → Int} (ne : ps ≠ []) (h : ∀ g t, g ∈ ps → t ∈ rw_ g → ¬ ∃ f, PM ps (upTo rw_ pr (pr g t)) f) : ¬ ∃ f, PM ps rw_ f := by
  rintro ⟨f, p⟩
  obtain ⟨g, hg, k⟩ := max_of ps (fun g => pr g (f g)) ne
  exact h g (f g) hg (p.ok g hg) ⟨f, p.up fun h hh => k h hh⟩
theorem lt_take {l : List Int} (s : l.Pairwise (· ≤ ·)) {i : Nat} {m n : Int} (hm : l[i]? = some m) (hn : n ∈ l) (lt : n < m) : n ∈ l.take i := by
  obtain ⟨j, hj, e⟩ := List.mem_iff_getElem.mp hn
  obtain ⟨hi, e2⟩ := List.getElem?_eq_some_iff.mp hm
  by_cases c : j < i
  · exact List.mem_take_iff_getElem.mpr ⟨j, by omega, e⟩
  · exfalso
    rcases Nat.lt_or_ge i j with h | h
    · have := (List.pairwise_iff_getElem.mp s) i j hi hj h
      rw [e, e2] at this
      omega
    · have : i = j := by omega
      subst this
      rw [e2] at e
      omega
theorem PeopleOk.ne {ps : List Str} (ok : PeopleOk ps) : ps ≠ [] := fun e => by have := ok.lo; rw [e] at this; simp at this
def spGreatest (K : PySem.W.Frag) : Sp := fun vs H Q _ => ∃ (x pa p d : Addr) (ps : List Str) (cl : List (Str × Str)) (rw_ : Str → List Str) (es : List ((Str × Str) × Int)) (pr : Str → Str → Int), vs = [.ref x, .ref d] ∧ BookAt K H x pa p ps cl rw_ ∧ PeopleOk ps ∧ RowOk ps rw_ ∧
  H d = some (dP es) ∧ PrOk ps cl rw_ es pr ∧ (∃ f, PM ps rw_ f) ∧ ∀ H' a dd m f, Same H H' → H' a = some (.tup [.int m, .ref dd]) → H' dd = some (dF ps f) → Least ps rw_ pr m → PM ps (upTo rw_ pr m) f → Q (.ref a) H'
abbrev nGreatest : List Str := ["book", "prices", "rows", "known", "most", "found", "pair"]
theorem scGreatest : FnScope nGreatest ["book", "prices"] dGreatest.scope := ⟨rfl, rfl, rfl, by decide +kernel, rfl, by decide +kernel, by decide +kernel⟩
def spGLack (K : PySem.W.Frag) : Sp := fun vs H Q _ => ∃ (x pa p d : Addr) (ps : List Str) (cl : List (Str × Str)) (rw_ : Str → List Str) (es : List ((Str × Str) × Int)) (pr : Str → Str → Int), vs = [.ref x, .ref d] ∧ BookAt K H x pa p ps cl rw_ ∧ PeopleOk ps ∧ RowOk ps rw_ ∧
  H d = some (dP es) ∧ PrOk ps cl rw_ es pr ∧ (∃ f, PM ps rw_ f) ∧ ∀ H' a t1 t2 m lot ts nb, Same H H' → H' a = some (.tup [.ref t1, .ref t2]) → H' t1 = some (.tup (lot.map V.str)) → H' t2 = some (.tup (ts.map V.str)) → Least ps rw_ pr m →
    Srt lot → Hall ps (upTo rw_ pr (m - 1)) lot nb → Srt ts → (∀ t, t ∈ ts ↔ ∃ g, g ∈ lot ∧ t ∈ upTo rw_ pr (m - 1) g) → Q (.ref a) H'
abbrev nGLack : List Str := ["book", "prices", "rows", "givers"]
theorem scGLack : FnScope nGLack ["book", "prices"] dGreatestLack.scope := ⟨rfl, rfl, rfl, by decide +kernel, rfl, by decide +kernel, by decide +kernel⟩
section
variable {P : Program} {w : World} {K : PySem.W.Frag} {mg : Str → Option Value} {base : Heap}
theorem ok_greatest (T : Tx K mg) : Ok P w K mg base CX0 27 dGreatest ["book", "prices"] (spGreatest K) := by
  have S1 := ok_checkp (P := P) (w := w) (base := base) T
  have S2 := ok_upto (P := P) (w := w) (base := base) T
  have S3 := ok_paired (P := P) (w := w) (base := base) T
  obtain ⟨fdR, FR, bR⟩ := (ok_brows (P := P) (w := w) (base := base) T).ex
  obtain ⟨fdF, FF, bF⟩ := (ok_bfree (P := P) (w := w) (base := base) T).ex
  refine Ok.mk0 T _ ixGreatest scGreatest (fun _ _ _ _ _ _ us hl => match us, hl with | [_, _], _ => rfl) (fun vs H Q E h => ?_) (fun f cdv A outer st H vs Q E hr h => ?_)
  · obtain ⟨x, pa, p, d, ps, cl, rw_, es, pr, rfl, _⟩ := h
    rfl
  · have hu := hu_of hr
    obtain ⟨x, pa, p, d, ps, cl, rw_, es, pr, rfl, B, ok, ro, hd, po, full, k⟩ := h
    refine ⟨_, pss_cons (ps_expr (pc S1 hr (by decide) T.g_check_prices pass0 (pa_cons (pv 0) (pa_cons (pv 1) pa_nil))))
      (pss_cons (ps_set (i := 2) scGreatest.nd rfl (.inl rfl) (pe_meth0 (pv 0) T.c_Book T.m_Book_rows FR (hr.mono (by decide)) bR .nil pass0))
      (pss_cons (ps_setDg (i := 3) (own := [("pair", 6)]) (o := .dK []) (g := gName 6) (tt := tYes) hu rfl scGreatest.nd rfl rfl (sw_dict rfl rfl rfl rfl) (pi_list (pe_meth0 (pv 0) T.c_Book T.m_Book_free FF (hr.mono (by decide)) bF .nil pass0)) (blkOk_by (N := nGreatest) (sc := dGreatest.scope) (by decide +kernel))
          (fun _ _ _ _ _ => pg_name (i := 6) scGreatest.nd rfl (.inl rfl)) (fun _ _ _ _ _ => pts_nil) (fun _ _ _ _ _ => pe_dget hu (pv 1) (pv 6) (fun _ _ => rfl)) (fun _ _ _ _ _ => pe_bl))
      (pss_cons (ps_for PassesOwn.never rfl (pi_list (pe_callB cr_sortedI (by rfl) T.f_sorted (by decide +kernel) (pa_cons (pe_callTy (call_listD rfl) (by rfl) T.f_list (by decide +kernel) (pa_cons (pv 3) pa_nil)) pa_nil))) (pg_name (i := 4) scGreatest.nd rfl (.inl rfl))
        (pss_cons (ps_set (i := 5) scGreatest.nd rfl (.inl rfl) (pc S3 hr (by decide) T.g_paired pass0 (pa_cons (pc S2 hr (by decide) T.g_rows_up_to pass0 (pa_cons (pv 2) (pa_cons (pv 1) (pa_cons (pv 4) pa_nil)))) pa_nil)))
        (pss_one (ps_if (pt_cmpR op_notN (pv 5) pe_non (nomark _)) (pss_one (ps_ret (pe_tup (pa_cons (pv 4) (pa_cons (pv 5) pa_nil))))) pss_nil))))
      (pss_one ps_never)))), ?_⟩
    refine ⟨_, rfl, _, rfl, x, pa, p, d, ps, cl, rw_, es, pr, rfl, B, ok, ro, hd, po, fun H1 s1 => ?_⟩
    obtain ⟨⟨lk, r0, dx, ad0, hx, R0⟩, hP⟩ := id B
    refine ⟨_, rfl, x, dx, _, rfl, s1 _ _ hx, fsBook_no pa lk r0 (by decide +kernel) (by decide +kernel) (by decide +kernel), x, pa, p, ps, cl, rw_, rfl, B.same s1, ok, fun H2 r ad s2 _ R => ?_⟩
    have s12 := s1.trans s2
    refine ⟨_, rfl, x, dx, _, rfl, s12 _ _ hx, fsBook_no pa lk r0 (by decide +kernel) (by decide +kernel) (by decide +kernel), x, pa, p, ps, cl, rw_, rfl, B.same s12, ok, ro, fun H3 l qs s3 _ hl hqs len mem => ?_⟩
    have s13 := s12.trans s3
    refine ⟨l, rfl, ⟨_, SqL.of hl⟩, fun D hD => ?_⟩
    have prq : ∀ q, q ∈ qs → q.2.1 ∈ ps ∧ q.2.2 ∈ rw_ q.2.1 := fun q m => (mem q.2).mp (List.mem_map.mpr ⟨q, m, rfl⟩)
    refine turns_w (Wk.list (xs := refs qs)) (fun i H' => Same H3 H' ∧ H' D = some (.dK (mp ki V.bl (knD ((qs.take i).map fun q => pr q.2.1 q.2.2))))) ⟨Same.new hD, upd_same⟩ (fun i H' _ p => p.1.seq (SqL.of hl)) ?_ ?_
    · rintro i y H4 H4' hi ⟨s4, d4⟩ ⟨rfl, hy⟩
      obtain ⟨q, hq, rfl⟩ := refs_get hy
      have qm := List.mem_of_getElem? hq
      have g1 := dget_t (x := q.2) (.inl ((s13.trans s4) _ _ hd)) (s4 _ _ (hqs q qm))
      rw [show gt es q.2 = some (pr q.2.1 q.2.2) from po.all q.2.1 q.2.2 (prq q qm).1 (prq q qm).2] at g1
      refine ⟨rfl, yesT ?_⟩
      refine ⟨_, rfl, _, rfl, d, _, rfl, g1, _, dput_i d4 _ true ?_, Same.mut s4 hD, ?_⟩
      · have h1 := knD_len ((qs.take i).map fun q => pr q.2.1 q.2.2)
        rw [List.length_map, List.length_take] at h1
        exact sz1000 (by omega)
      · rw [upd_same, take_snoc hq, List.map_append, List.map_singleton, knD_snoc]
    · rintro H4 ⟨s4, d4⟩
      rw [refs_len, List.take_length] at d4
      have s14 := s13.trans s4
      generalize ekn : knD (qs.map fun q => pr q.2.1 q.2.2) = kn at d4
      have kmem : ∀ n, n ∈ keys kn ↔ ∃ g t, g ∈ ps ∧ t ∈ rw_ g ∧ pr g t = n := fun n => by
        rw [← ekn, knD_mem, List.mem_map]
        constructor
        · rintro ⟨q, hq, e⟩
          exact ⟨q.2.1, q.2.2, (prq q hq).1, (prq q hq).2, e⟩
        · rintro ⟨g, t, hg, ht, e⟩
          obtain ⟨q, hq, e2⟩ := List.mem_map.mp ((mem (g, t)).mpr ⟨hg, ht⟩)
          exact ⟨q, hq, by rw [e2]; exact e⟩
      refine ⟨_, rfl, D, _, rfl, .inl d4, fun p0 hp0 => ?_⟩
      refine ⟨p0, keys kn, rfl, SqL.of (by rw [upd_same, mp_keysI]), fun ns p1 pm srt hp1 => ?_⟩
      have s6 := Same.new' (o := .lst (ns.map V.int)) (Same.new' (o := .lst ((mp ki V.bl kn).map fun kv => kV kv.1)) s14 hp0) hp1
      have hns : SqL K (upd (upd H4 p0 (.lst ((mp ki V.bl kn).map fun kv => kV kv.1))) p1 (.lst (ns.map V.int))) p1 (ns.map V.int) := SqL.of upd_same
      have s26 := Same.new' (o := .lst (ns.map V.int)) (Same.new' (o := .lst ((mp ki V.bl kn).map fun kv => kV kv.1)) (s3.trans s4) hp0) hp1
      generalize upd (upd H4 p0 (.lst ((mp ki V.bl kn).map fun kv => kV kv.1))) p1 (.lst (ns.map V.int)) = H6 at s6 hns s26 ⊢
      refine ⟨p1, rfl, ⟨_, hns⟩, for_w (Wk.list (xs := ns.map V.int)) (fun i σ H' => ∃ v w, σ = [some (.ref x), some (.ref d), some (.ref r), some (.ref D), v, w, none] ∧ Same H6 H' ∧ ∀ n, n ∈ ns.take i → ¬ ∃ f, PM ps (upTo rw_ pr n) f) ⟨none, none, rfl, Same.refl _, by simp⟩ (fun i σ H' _ ⟨_, _, _, s, _⟩ => s.seq hns) ?_ ?_⟩
      · rintro i y σ H7 H7' hi ⟨v, w, rfl, s7, no⟩ ⟨rfl, hy⟩
        obtain ⟨m, hm, rfl⟩ := map_get hy
        have min := List.mem_of_getElem? hm
        have s17 := s6.trans s7
        refine ⟨_, rfl, _, rfl, _, rfl, r, d, ps, ad, rw_, es, pr, m, rfl, R.same (s26.trans s7), ok, ro, .inl (s17 _ _ hd), po.all, fun H8 r8 ad8 s8 R8 => ?_⟩
        refine ⟨r8, ps, ps, ad8, upTo rw_ pr m, rfl, R8, (ro.upTo pr m).tab ok, fun H9 dd f s9 _ hdd pm9 => ?_, fun H9 s9 none9 => ?_⟩
        · refine ⟨_, rfl, rfl, _, rfl, iteT ?_⟩
          refine ⟨_, rfl, _, rfl, by show 2 ≤ sizeLine; decide, fun a ha => ?_⟩
          have s19 := (s17.trans s8).trans s9
          refine k _ a dd m f (Same.new' s19 ha) upd_same (Same.new ha _ _ hdd) (Least.found ok.ne pm9 fun g t hg ht lt => ?_) pm9
          exact no _ (lt_take srt hm (pm.mem_iff.mpr ((kmem _).mpr ⟨g, t, hg, ht, rfl⟩)) lt)
        · refine ⟨_, rfl, rfl, _, rfl, iteF ⟨_, _, rfl, (s7.trans s8).trans s9, fun n hn => ?_⟩⟩
          rw [take_snoc hm] at hn
          rcases List.mem_append.mp hn with q | q
          · exact no n q
          · rw [List.mem_singleton.mp q]
            exact none9
      · rintro σ H7 ⟨v, w, rfl, s7, no⟩
        rw [List.length_map, List.take_length] at no
        exact no_up ok.ne (fun g t hg ht => no _ (pm.mem_iff.mpr ((kmem _).mpr ⟨g, t, hg, ht, rfl⟩))) full
theorem ok_glack (T : Tx K mg) : Ok P w K mg base CX0 28 dGreatestLack ["book", "prices"] (spGLack K) := by
  have S1 := ok_greatest (P := P) (w := w) (base := base) T
  have S2 := ok_upto (P := P) (w := w) (base := base) T
  have S3 := ok_short (P := P) (w := w) (base := base) T
  have S4 := ok_takers (P := P) (w := w) (base := base) T
  obtain ⟨fdR, FR, bR⟩ := (ok_brows (P := P) (w := w) (base := base) T).ex
  refine Ok.mk0 T _ ixGreatestLack scGLack (fun _ _ _ _ _ _ us hl => match us, hl with | [_, _], _ => rfl) (fun vs H Q E h => ?_) (fun f cdv A outer st H vs Q E hr h => ?_)
  · obtain ⟨x, pa, p, d, ps, cl, rw_, es, pr, rfl, _⟩ := h
    rfl
  · have hu := hu_of hr
    obtain ⟨x, pa, p, d, ps, cl, rw_, es, pr, rfl, B, ok, ro, hd, po, full, k⟩ := h
    refine ⟨_, pss_cons (ps_set (i := 2) scGLack.nd rfl (.inl rfl) (pc S2 hr (by decide) T.g_rows_up_to pass0 (pa_cons (pe_meth0 (pv 0) T.c_Book T.m_Book_rows FR (hr.mono (by decide)) bR .nil pass0) (pa_cons (pv 1)
        (pa_cons (pe_op op_sub (pe_ix ix_tup (pc S1 hr (by decide) T.g_greatest pass0 (pa_cons (pv 0) (pa_cons (pv 1) pa_nil))) pe_int (fun _ _ => rfl)) pe_int) pa_nil)))))
      (pss_cons (ps_set (i := 3) scGLack.nd rfl (.inl rfl) (pc S3 hr (by decide) T.g_short_lot pass0 (pa_cons (pv 2) pa_nil)))
      (pss_one (ps_ret (pe_tup (pa_cons (pe_callTy (T := "tuple") call_tuple_of (by rfl) T.f_tuple (by decide +kernel) (pa_cons (pv 3) pa_nil))
        (pa_cons (pe_callTy (T := "tuple") call_tuple_of (by rfl) T.f_tuple (by decide +kernel) (pa_cons (pc S4 hr (by decide) T.g_takers_of pass0 (pa_cons (pv 2) (pa_cons (pv 3) pa_nil))) pa_nil)) pa_nil)))))), ?_⟩
    obtain ⟨⟨lk, r0, dx, ad0, hx, R0⟩, hP⟩ := id B
    refine ⟨_, rfl, x, dx, _, rfl, hx, fsBook_no pa lk r0 (by decide +kernel) (by decide +kernel) (by decide +kernel), x, pa, p, ps, cl, rw_, rfl, B, ok, fun H1 r ad s1 _ R => ?_⟩
    refine ⟨_, rfl, _, rfl, _, rfl, x, pa, p, d, ps, cl, rw_, es, pr, rfl, B.same s1, ok, ro, s1 _ _ hd, po, full, fun H2 a dd m f s2 ha hdd least pm => ?_⟩
    have s12 := s1.trans s2
    refine ⟨a, _, 0, _, rfl, rfl, SqT.of ha, rfl, _, _, rfl, rfl, r, d, ps, ad, rw_, es, pr, m - 1, rfl, R.same s2, ok, ro, .inl (s12 _ _ hd), po.all, fun H3 r3 ad3 s3 R3 => ?_⟩
    refine ⟨_, rfl, r3, ps, ps, ad3, upTo rw_ pr (m - 1), rfl, R3, (ro.upTo pr (m - 1)).tab ok, fun H4 l lot nb s4 _ hl sl hall => ?_, fun H4 f s4 pm4 => absurd ⟨f, pm4⟩ least.below⟩
    refine ⟨_, rfl, l, _, rfl, .inl ⟨SqL.of hl, fun t1 ht1 => ?_⟩⟩
    have s5 : Same H4 (upd H4 t1 (.tup (lot.map V.str))) := Same.new ht1
    refine ⟨_, rfl, _, rfl, r3, l, ps, ps, lot, ad3, upTo rw_ pr (m - 1), rfl, (R3.at.same s4).same s5, (ro.upTo pr (m - 1)).tab ok, s5.seq (SqL.of hl), hall.sub, fun H6 q ts s6 _ hq st mem => ?_⟩
    refine ⟨q, _, rfl, .inl ⟨SqL.of hq, fun t2 ht2 => ?_⟩⟩
    refine ⟨by show 2 ≤ sizeLine; decide, fun b hb => ?_⟩
    have e1 : (upd H4 t1 (.tup (lot.map V.str))) t1 = some (.tup (lot.map V.str)) := upd_same
    have e2 : (upd H6 t2 (.tup (ts.map V.str))) t2 = some (.tup (ts.map V.str)) := upd_same
    have s7 := Same.new' (o := .tup (ts.map V.str)) s6 ht2
    exact k _ b t1 t2 m lot ts nb (Same.new' ((((s12.trans s3).trans s4).trans s5).trans s7) hb) upd_same (Same.new hb _ _ (s7 _ _ e1)) (Same.new hb _ _ e2) least sl hall st mem
end
end GF

/- GHung -/
/-! Plain mathematics: the search that grows along ties, whatever the ties. -/
set_option linter.all false
namespace GR
section
variable {α : Type} [DecidableEq α]
/-- between two reached givers -/
structure GI (rw_ : α → List α) (held : List (α × α)) (start giver : α) (U : List α) (bf : List (α × α)) (S : List α) : Prop where
  und : U.Nodup
  dis : ∀ t, t ∈ S → t ∉ U
  hu : ∀ t, t ∈ U → ∃ x, gt held t = some x
  rch : giver = start ∨ ∃ t, t ∈ U ∧ gt held t = some giver
  scan : ∀ x, (x = start ∨ ∃ t, t ∈ U ∧ gt held t = some x) → x ≠ giver → ∀ u, u ∈ rw_ x → u ∈ U ∨ u ∈ S
  bfU : ∀ (k : Nat) (t : α), U[k]? = some t → ∃ b, gt bf t = some b ∧ t ∈ rw_ b ∧ (b = start ∨ ∃ (j : Nat) (u : α), j < k ∧ U[j]? = some u ∧ gt held u = some b)
  bfS : ∀ t, t ∈ S → ∃ b, gt bf t = some b ∧ t ∈ rw_ b ∧ (b = start ∨ ∃ u, u ∈ U ∧ gt held u = some b)
/-- the giver's first takers are looked at -/
structure GL (rw_ : α → List α) (held : List (α × α)) (start giver : α) (U : List α) (j : Nat) (bf : List (α × α)) (S : List α) : Prop where
  gi : GI rw_ held start giver U bf S
  seen : ∀ u, u ∈ (rw_ giver).take j → u ∈ U ∨ u ∈ S
/-- the way back -/
structure Way (rw_ : α → List α) (held : List (α × α)) (start : α) (L : List α) (bf : List (α × α)) : Prop where
  nd : L.Nodup
  bk : ∀ (k : Nat) (t : α), L[k]? = some t → ∃ b, gt bf t = some b ∧ t ∈ rw_ b ∧ (b = start ∨ ∃ (j : Nat) (u : α), j < k ∧ L[j]? = some u ∧ gt held u = some b)
variable {rw_ : α → List α} {held : List (α × α)} {start giver : α} {U S : List α} {bf : List (α × α)} {j : Nat}
theorem GI.init : GI rw_ held start start [] ([] : List (α × α)) [] :=
  ⟨List.nodup_nil, by simp, by simp, .inl rfl, fun x h n => by
    rcases h with h | ⟨t, h, _⟩
    · exact absurd h n
    · simp at h, by simp, by simp⟩
theorem GI.loop (g : GI rw_ held start giver U bf S) : GL rw_ held start giver U 0 bf S := ⟨g, by simp⟩
theorem GL.stay (g : GL rw_ held start giver U j bf S) {t : α} (ht : (rw_ giver)[j]? = some t) (h : t ∈ U ∨ t ∈ S) : GL rw_ held start giver U (j + 1) bf S := ⟨g.gi, fun u hu => by
  rw [take_snoc ht] at hu
  rcases List.mem_append.mp hu with q | q
  · exact g.seen u q
  · rw [List.mem_singleton.mp q]; exact h⟩
theorem GL.set (g : GL rw_ held start giver U j bf S) {t : α} (ht : (rw_ giver)[j]? = some t) (h : t ∉ U) {S' : List α} (hS : ∀ u, u ∈ S' ↔ u = t ∨ u ∈ S) : GL rw_ held start giver U (j + 1) (put bf t giver) S' := by
  have keep : ∀ u, u ≠ t → gt (put bf t giver) u = gt bf u := fun u n => by rw [gt_put, if_neg n]
  refine ⟨⟨g.gi.und, fun u hu => ?_, g.gi.hu, g.gi.rch, fun x hx n u hu => ?_, fun k u hu => ?_, fun u hu => ?_⟩, fun u hu => ?_⟩
  · rcases (hS u).mp hu with q | q
    · rw [q]; exact h
    · exact g.gi.dis u q
  · rcases g.gi.scan x hx n u hu with q | q
    · exact .inl q
    · exact .inr ((hS u).mpr (.inr q))
  · have e : u ≠ t := fun e => h (by rw [← e]; exact List.mem_of_getElem? hu)
    obtain ⟨b, h1, h2, h3⟩ := g.gi.bfU k u hu
    exact ⟨b, by rw [keep u e]; exact h1, h2, h3⟩
  · by_cases e : u = t
    · subst e
      refine ⟨giver, by rw [gt_put, if_pos rfl], List.mem_of_getElem? ht, g.gi.rch⟩
    · rcases (hS u).mp hu with q | q
      · exact absurd q e
      · obtain ⟨b, h1, h2, h3⟩ := g.gi.bfS u q
        exact ⟨b, by rw [keep u e]; exact h1, h2, h3⟩
  · rw [take_snoc ht] at hu
    rcases List.mem_append.mp hu with q | q
    · rcases g.seen u q with z | z
      · exact .inl z
      · exact .inr ((hS u).mpr (.inr z))
    · exact .inr ((hS u).mpr (.inl (List.mem_singleton.mp q)))
theorem GL.all (g : GL rw_ held start giver U (rw_ giver).length bf S) (x : α) (hx : x = start ∨ ∃ t, t ∈ U ∧ gt held t = some x) (u : α) (hu : u ∈ rw_ x) : u ∈ U ∨ u ∈ S := by
  by_cases e : x = giver
  · have := g.seen u
    rw [List.take_length] at this
    exact this (e ▸ hu)
  · exact g.gi.scan x hx e u hu
/-- nobody is left to look at -/
theorem GL.stuck (g : GL rw_ held start giver U (rw_ giver).length bf []) : SkF rw_ start held [] U := by
  have all : ∀ x, (x = start ∨ ∃ t, t ∈ U ∧ gt held t = some x) → ∀ u, u ∈ rw_ x → u ∈ U := fun x hx u hu => by
    rcases g.all x hx u hu with q | q
    · exact q
    · simp at q
  refine ⟨by simp, all start (.inl rfl), fun t ht => ?_⟩
  obtain ⟨x, hx⟩ := g.gi.hu t ht
  exact .inr ⟨x, hx, all x (.inr ⟨t, ht, hx⟩)⟩
theorem GI.way (g : GI rw_ held start giver U bf S) {t : α} (ht : t ∈ S) : Way rw_ held start (U ++ [t]) bf := by
  refine ⟨nd_snoc g.und (g.dis t ht), fun k u hu => ?_⟩
  rcases Nat.lt_or_ge k U.length with c | c
  · rw [List.getElem?_append_left c] at hu
    obtain ⟨b, h1, h2, h3⟩ := g.bfU k u hu
    refine ⟨b, h1, h2, h3.imp id fun ⟨i, v, hi, hv, e⟩ => ⟨i, v, hi, by rw [List.getElem?_append_left (by omega)]; exact hv, e⟩⟩
  · rw [List.getElem?_append_right c] at hu
    have e : k = U.length ∧ u = t := by
      cases q : k - U.length with
      | zero => rw [q] at hu; exact ⟨by omega, by simpa using hu.symm⟩
      | succ n => rw [q] at hu; simp at hu
    obtain ⟨rfl, rfl⟩ := e
    obtain ⟨b, h1, h2, h3⟩ := g.bfS u ht
    refine ⟨b, h1, h2, h3.imp id fun ⟨v, hv, e⟩ => ?_⟩
    obtain ⟨i, hi, ei⟩ := List.mem_iff_getElem.mp hv
    exact ⟨i, v, hi, by rw [List.getElem?_append_left hi, List.getElem?_eq_getElem hi, ei], e⟩
/-- the nearest taker is held: its giver is reached -/
theorem GL.go (g : GL rw_ held start giver U (rw_ giver).length bf S) {t x : α} (ht : t ∈ S) (hx : gt held t = some x) {S' : List α} (hS : ∀ u, u ∈ S' ↔ u ≠ t ∧ u ∈ S) : GI rw_ held start x (U ++ [t]) bf S' := by
  have W := g.gi.way ht
  have tU : ∀ u, u ∈ U ++ [t] ↔ u ∈ U ∨ u = t := fun u => by rw [List.mem_append, List.mem_singleton]
  refine ⟨W.nd, fun u hu m => ?_, fun u hu => ?_, .inr ⟨t, (tU t).mpr (.inr rfl), hx⟩, fun y hy n u hu => ?_, W.bk, fun u hu => ?_⟩
  · obtain ⟨h1, h2⟩ := (hS u).mp hu
    rcases (tU u).mp m with q | q
    · exact g.gi.dis u h2 q
    · exact h1 q
  · rcases (tU u).mp hu with q | q
    · exact g.gi.hu u q
    · exact ⟨x, q ▸ hx⟩
  · have hy' : y = start ∨ ∃ t, t ∈ U ∧ gt held t = some y := by
      rcases hy with q | ⟨v, hv, e⟩
      · exact .inl q
      · rcases (tU v).mp hv with q | q
        · exact .inr ⟨v, q, e⟩
        · rw [q, hx] at e
          exact absurd (Option.some.inj e).symm n
    rcases g.all y hy' u hu with q | q
    · exact .inl ((tU u).mpr (.inl q))
    · by_cases e : u = t
      · exact .inl ((tU u).mpr (.inr e))
      · exact .inr ((hS u).mpr ⟨e, q⟩)
  · obtain ⟨b, h1, h2, h3⟩ := g.gi.bfS u ((hS u).mp hu).2
    exact ⟨b, h1, h2, h3.imp id fun ⟨v, hv, e⟩ => ⟨v, (tU v).mpr (.inl hv), e⟩⟩
/-- turning over: t's place is to be written -/
structure TO (rw_ : α → List α) (held : List (α × α)) (L : List α) (k : Nat) (t : α) (cur : List (α × α)) : Prop where
  nd : (keys cur).Nodup
  at_ : L[k]? = some t
  inj : ∀ a b x, a ≠ t → b ≠ t → gt cur a = some x → gt cur b = some x → a = b
  rng : ∀ x, (∃ a, a ≠ t ∧ gt cur a = some x) ↔ ∃ a, gt held a = some x
  same : ∀ (i : Nat) (u : α), i < k → L[i]? = some u → gt cur u = gt held u
  val : ∀ a x, a ≠ t → gt cur a = some x → a ∈ rw_ x
theorem TO.init {t : α} (nd : (keys held).Nodup) (inj : ∀ a b x, gt held a = some x → gt held b = some x → a = b) (val : Val rw_ held) (ht : gt held t = none) : TO rw_ held (U ++ [t]) U.length t held :=
  ⟨nd, by simp, fun a b x _ _ => inj a b x, fun x => ⟨fun ⟨a, _, e⟩ => ⟨a, e⟩, fun ⟨a, e⟩ => ⟨a, fun z => (by rw [z, ht] at e; cases e), e⟩⟩, fun _ _ _ _ => rfl, fun a x _ => val a x⟩
theorem nd_idx {L : List α} (n : L.Nodup) {i k : Nat} {u t : α} (hi : L[i]? = some u) (hk : L[k]? = some t) (lt : i < k) : u ≠ t := fun e => by
  obtain ⟨h1, e1⟩ := List.getElem?_eq_some_iff.mp hi
  obtain ⟨h2, e2⟩ := List.getElem?_eq_some_iff.mp hk
  have := (List.getElem_inj n).mp (e1.trans (e.trans e2.symm))
  omega
theorem TO.step {L : List α} {k i : Nat} {t v b : α} {cur : List (α × α)} (h : TO rw_ held L k t cur) (W : Way rw_ held start L bf) (tb : t ∈ rw_ b) (hi : i < k) (hv : L[i]? = some v) (e : gt held v = some b) : TO rw_ held L i v (put cur t b) := by
  have vt : v ≠ t := nd_idx W.nd hv h.at_ hi
  have cv : gt cur v = some b := by rw [h.same i v hi hv]; exact e
  have old : ∀ a, a ≠ t → gt (put cur t b) a = gt cur a := fun a n => by rw [gt_put, if_neg n]
  have new : gt (put cur t b) t = some b := by rw [gt_put, if_pos rfl]
  refine ⟨nd_put b h.nd, hv, fun a c x ha hc e1 e2 => ?_, fun x => ⟨?_, ?_⟩, fun m u hm hu => ?_, fun a x ha e1 => ?_⟩
  · by_cases at_ : a = t
    · by_cases ct : c = t
      · rw [at_, ct]
      · rw [at_, new] at e1
        cases e1
        rw [old c ct] at e2
        exact absurd (h.inj c v b ct vt e2 cv) hc
    · rw [old a at_] at e1
      by_cases ct : c = t
      · rw [ct, new] at e2
        cases e2
        exact absurd (h.inj a v b at_ vt e1 cv) ha
      · rw [old c ct] at e2
        exact h.inj a c x at_ ct e1 e2
  · rintro ⟨a, ha, e1⟩
    by_cases at_ : a = t
    · rw [at_, new] at e1
      cases e1
      exact ⟨v, e⟩
    · rw [old a at_] at e1
      exact (h.rng x).mp ⟨a, at_, e1⟩
  · intro hx
    obtain ⟨a, at_, e1⟩ := (h.rng x).mpr hx
    by_cases av : a = v
    · rw [av, cv] at e1
      cases e1
      exact ⟨t, fun z => vt z.symm, new⟩
    · exact ⟨a, av, by rw [old a at_]; exact e1⟩
  · rw [old u (nd_idx W.nd hu h.at_ (by omega))]
    exact h.same m u (by omega) hu
  · by_cases at_ : a = t
    · rw [at_, new] at e1
      cases e1
      rw [at_]; exact tb
    · rw [old a at_] at e1
      exact h.val a x at_ e1
theorem TO.fin {L : List α} {k : Nat} {t : α} {cur : List (α × α)} (h : TO rw_ held L k t cur) (ts : t ∈ rw_ start) (no : ∀ a, gt held a ≠ some start) :
    SkT start held [] (put cur t start) ∧ (keys (put cur t start)).Nodup ∧ Val rw_ (put cur t start) := by
  have old : ∀ a, a ≠ t → gt (put cur t start) a = gt cur a := fun a n => by rw [gt_put, if_neg n]
  have new : gt (put cur t start) t = some start := by rw [gt_put, if_pos rfl]
  have nos : ∀ a, a ≠ t → gt cur a ≠ some start := fun a n e => by
    obtain ⟨c, hc⟩ := (h.rng start).mp ⟨a, n, e⟩
    exact no c hc
  refine ⟨⟨by simp, fun a c x _ _ e1 e2 => ?_, fun x => ⟨?_, ?_⟩⟩, nd_put _ h.nd, fun a x e1 => ?_⟩
  · by_cases at_ : a = t
    · by_cases ct : c = t
      · rw [at_, ct]
      · rw [at_, new] at e1
        cases e1
        rw [old c ct] at e2
        exact absurd e2 (nos c ct)
    · rw [old a at_] at e1
      by_cases ct : c = t
      · rw [ct, new] at e2
        cases e2
        exact absurd e1 (nos a at_)
      · rw [old c ct] at e2
        exact h.inj a c x at_ ct e1 e2
  · rintro ⟨a, _, e1⟩
    by_cases at_ : a = t
    · rw [at_, new] at e1
      cases e1
      exact .inl rfl
    · rw [old a at_] at e1
      obtain ⟨c, hc⟩ := (h.rng x).mp ⟨a, at_, e1⟩
      exact .inr ⟨c, by simp, hc⟩
  · rintro (e | ⟨c, _, hc⟩)
    · exact ⟨t, by simp, by rw [e]; exact new⟩
    · obtain ⟨a, at_, e1⟩ := (h.rng x).mpr ⟨c, hc⟩
      exact ⟨a, by simp, by rw [old a at_]; exact e1⟩
  · by_cases at_ : a = t
    · rw [at_, new] at e1
      cases e1
      rw [at_]; exact ts
    · rw [old a at_] at e1
      exact h.val a x at_ e1
end
end GR

/- GRulesD -/
set_option Elab.async false
set_option linter.all false
set_option maxRecDepth 100000
set_option maxHeartbeats 4000000
/-! min of a list of pairs of an int and a text: one of them. -/
namespace GF
open PySem PySem.Spec PyProof.Rows L2 GR
def NamesAt (H : Hp) (qs : List (Addr × (Int × Str))) : Prop := ∀ q, q ∈ qs → H q.1 = some (.tup [.int q.2.1, .str q.2.2])
def pd (q : Addr × (Int × Str)) : PyData := .tuple [.int q.2.1, .str q.2.2]
def rMinT (K : PySem.W.Frag) : List V → Hp → VK → Prop := fun vs H Q => ∃ (a : Addr) (qs : List (Addr × (Int × Str))), vs = [V.ref a] ∧ SqL K H a (refs qs) ∧ NamesAt H qs ∧ qs ≠ [] ∧ ∀ q, q ∈ qs → Q (.ref q.1) H
theorem pd_depth : ∀ qs : List (Addr × (Int × Str)), PyData.depthAll (qs.map pd) ≤ 8
  | [] => by
    show PyData.depthAll [] ≤ 8
    unfold PyData.depthAll
    omega
  | q :: qs => by
    have ih := pd_depth qs
    show PyData.depthAll (pd q :: qs.map pd) ≤ 8
    have e : PyData.depth (pd q) ≤ 8 := by
      unfold pd
      simp [PyData.depth, PyData.depthAll]
    unfold PyData.depthAll
    omega
section
variable {X : Cx}
theorem cr_minT (hc : X.calm = true) (hu : X.A.units + 64 < cLine) : CallR X (.builtin "min") (rMinT X.K) := by
  intro pins s σ H vs us Q I r h
  obtain ⟨a, qs, rfl, hs, hq, ne, q⟩ := h
  obtain ⟨its, rv, hl, hz⟩ := I.list hs
  obtain rfl := refs_vals rv
  rw [Vals.ref1 r]
  have rd : ∀ l : List (Addr × (Int × Str)), (∀ x, x ∈ l → x ∈ qs) → ∃ as, ReadsAll s.heap (l.map fun q => Value.ref q.1) (l.map pd) as := fun l => by
    induction l with
    | nil => exact fun _ => ⟨_, .nil⟩
    | cons x l ih =>
      intro hl'
      obtain ⟨as, h2⟩ := ih fun y hy => hl' y (List.mem_cons_of_mem _ hy)
      obtain ⟨is, r, ⟨o, ho, hc', n, hd⟩, _⟩ := I.tuple (SqT.of (K := X.K) (hq x (hl' x List.mem_cons_self)))
      cases r with
      | cons r1 rr =>
        cases rr with
        | cons r2 rr =>
          cases rr
          obtain ⟨t1, rfl⟩ := r1
          obtain ⟨t2, rfl⟩ := r2
          exact ⟨_, .cons (.tuple ho hc' hd (.cons (.int _ t1) (.cons (.str _ t2) .nil))) h2⟩
  cases qs with
  | nil => exact absurd rfl ne
  | cons q0 qs =>
    obtain ⟨as, hr⟩ := rd (q0 :: qs) fun _ h => h
    have hd := pd_depth (q0 :: qs)
    refine PySem.W.min_list_data (x := pd q0) (xs := qs.map pd) (I.ok.hd hc) hl.isList (by simpa using hr) ⟨fun x hx y hy => ?_, fun x hx => ?_⟩ (by
      have : PyData.depthAll (pd q0 :: qs.map pd) ≤ 8 := hd
      omega) fun i v h' tk bs hv _ hk => ?_
    · obtain ⟨x', hx', rfl⟩ := List.mem_map.mp (show x ∈ (q0 :: qs).map pd from hx)
      obtain ⟨y', hy', rfl⟩ := List.mem_map.mp (show y ∈ (q0 :: qs).map pd from hy)
      rfl
    · obtain ⟨x', hx', rfl⟩ := List.mem_map.mp (show x ∈ (q0 :: qs).map pd from hx)
      intro z
      cases z
    · obtain ⟨z, hz', rfl⟩ : ∃ z, z ∈ q0 :: qs ∧ v = .ref z.1 := by
        have hv' : ((q0 :: qs).map fun q => Value.ref q.1)[i]? = some v := by simpa using hv
        obtain ⟨z, hz', e⟩ := List.mem_map.mp (List.mem_of_getElem? hv')
        exact ⟨z, hz', e.symm⟩
      exact ⟨.ref z.1, H, I.kept hk, rfl, q z hz'⟩
end
end GF

/- DTurn -/
set_option Elab.async false
set_option linter.all false
set_option maxRecDepth 100000
set_option maxHeartbeats 4000000
namespace GF
open PySem PySem.Spec PyProof.Rows L2 GR
def fsSearch (r d og ot hb : Addr) : List (Str × V) := putF "held_by" (.ref hb) (putF "of_takers" (.ref ot) (putF "of_givers" (.ref og) (putF "priced" (.ref d) (putF "ahead" (.ref r) []))))
section
variable (r d og ot hb : Addr)
theorem fsS_ahead : (fsSearch r d og ot hb).lookup ("ahead" : Str) = some (V.ref r) := by
  unfold fsSearch
  rw [lookup_putF, if_neg (by decide +kernel), lookup_putF, if_neg (by decide +kernel), lookup_putF, if_neg (by decide +kernel), lookup_putF, if_neg (by decide +kernel), lookup_putF, if_pos rfl]
theorem fsS_priced : (fsSearch r d og ot hb).lookup ("priced" : Str) = some (V.ref d) := by
  unfold fsSearch
  rw [lookup_putF, if_neg (by decide +kernel), lookup_putF, if_neg (by decide +kernel), lookup_putF, if_neg (by decide +kernel), lookup_putF, if_pos rfl]
theorem fsS_og : (fsSearch r d og ot hb).lookup ("of_givers" : Str) = some (V.ref og) := by
  unfold fsSearch
  rw [lookup_putF, if_neg (by decide +kernel), lookup_putF, if_neg (by decide +kernel), lookup_putF, if_pos rfl]
theorem fsS_ot : (fsSearch r d og ot hb).lookup ("of_takers" : Str) = some (V.ref ot) := by
  unfold fsSearch
  rw [lookup_putF, if_neg (by decide +kernel), lookup_putF, if_pos rfl]
theorem fsS_hb : (fsSearch r d og ot hb).lookup ("held_by" : Str) = some (V.ref hb) := by
  unfold fsSearch
  rw [lookup_putF, if_pos rfl]
theorem fsS_no {m : Str} (h1 : m ≠ "held_by") (h2 : m ≠ "of_takers") (h3 : m ≠ "of_givers") (h4 : m ≠ "priced") (h5 : m ≠ "ahead") : (fsSearch r d og ot hb).lookup m = none := by
  unfold fsSearch
  rw [lookup_putF, if_neg h1, lookup_putF, if_neg h2, lookup_putF, if_neg h3, lookup_putF, if_neg h4, lookup_putF, if_neg h5]
  rfl
end
def spTurn (K : PySem.W.Frag) : Sp := fun vs H Q _ => ∃ (x r d og ot hb ba dx : Addr) (ps : List Str) (rw_ : Str → List Str) (held bf : List (Str × Str)) (U : List Str) (start t0 : Str), vs = [.ref x, .str start, .str t0, .ref ba] ∧
  H x = some (.ins (He.ga K "Search") dx (fsSearch r d og ot hb)) ∧ H hb = some (dS held) ∧ H ba = some (dS bf) ∧ hb ≠ ba ∧ PeopleOk ps ∧ RowOk ps rw_ ∧ (keys held).Nodup ∧ (∀ a b y, gt held a = some y → gt held b = some y → a = b) ∧ Val rw_ held ∧
  Way rw_ held start (U ++ [t0]) bf ∧ gt held t0 = none ∧ (∀ a, gt held a ≠ some start) ∧
  ∀ H' held', But [hb] H H' → H' hb = some (dS held') → SkT start held [] held' → (keys held').Nodup → Val rw_ held' → Q .non H'
abbrev nTurn : List Str := ["self", "start", "taker", "before", "has", "giver", "name"]
theorem scTurn : FnScope nTurn ["self", "start", "taker", "before"] dSearchTurnOver.scope := ⟨rfl, rfl, rfl, by decide +kernel, rfl, by decide +kernel, by decide +kernel⟩
theorem keys_few {ps : List Str} {l : List (Str × Str)} (ok : PeopleOk ps) (n : (keys l).Nodup) (h : ∀ a x, gt l a = some x → a ∈ ps) : l.length ≤ 24 := by
  have e := len_le_of_sub n fun a ha => by
    obtain ⟨x, hx⟩ := gt_key_some ha
    exact h a x hx
  have := ok.hi
  unfold keys at e
  rw [List.length_map] at e
  omega
theorem pg_tupK {X : Cx} {K : PySem.W.Frag} {es : List Expr} {k n : Nat} {pos : Pos} {t : List V → L2.St → Hp → (L2.St → Hp → Prop) → Prop} (hK : X.K = K) (hc : X.calm = true) (h : PGs X es t)
    (hn : (assignEach es X.env).length = n := by rfl) (hst : (assignEach es X.env).findIdx? (·.1) = none := by rfl) : PG X (.Tuple es k pos) (gTup K n t) := by
  subst hK
  exact pg_tup hc h hn hst
section
variable {P : Program} {w : World} {K : PySem.W.Frag} {mg : Str → Option Value} {base : Heap}
theorem ok_turn (T : Tx K mg) : Ok P w K mg base CX0 1 dSearchTurnOver ["self", "start", "taker", "before"] (spTurn K) := by
  refine Ok.mk0 T _ ixSearchTurnOver scTurn (fun _ _ _ _ _ _ us hl => match us, hl with | [_, _, _, _], _ => rfl) (fun vs H Q E h => ?_) (fun f cdv A outer st H vs Q E hr h => ?_)
  · obtain ⟨x, r, d, og, ot, hb, ba, dx, ps, rw_, held, bf, U, start, t0, rfl, _⟩ := h
    rfl
  · have hu := hu_of hr
    obtain ⟨x, r, d, og, ot, hb, ba, dx, ps, rw_, held, bf, U, start, t0, rfl, hx, hh, hba, nhb, ok, ro, nd, inj, val, W, ht0, no, k⟩ := h
    refine ⟨_, pss_cons (ps_lock (ps_setDg (i := 4) (own := [("name", 6), ("giver", 5)]) (o := .dK []) (tt := tYes) hu rfl scTurn.nd rfl rfl (sw_dict rfl rfl rfl rfl) (pi_items (pe_fld (pv 0) rfl)) (blkOk_by (N := nTurn) (sc := dSearchTurnOver.scope) (by decide +kernel))
          (fun _ _ _ _ _ => pg_tupK (K := K) (n := 2) rfl rfl (pgs_cons (pg_name (i := 6) scTurn.nd rfl (.inl rfl)) (pgs_cons (pg_name (i := 5) scTurn.nd rfl (.inl rfl)) pgs_nil))) (fun _ _ _ _ _ => pts_nil) (fun _ _ _ _ _ => pv 5) (fun _ _ _ _ _ => pv 6)))
      (pss_cons (ps_set (i := 5) scTurn.nd rfl (.inl rfl) (pe_dget hu (pv 3) (pv 2) (fun _ _ => rfl)))
      (pss_cons (ps_while PassesOwn.never (pt_cmpR op_ne (pv 5) (pv 1) (nomark _))
        (pss_cons (ps_dput hu (pe_fld (pv 0) rfl) (pv 2) (pv 5) rfl)
        (pss_cons (ps_set (i := 2) scTurn.nd rfl (.inl rfl) (pe_dget hu (pv 4) (pv 5) (fun _ _ => rfl)))
        (pss_one (ps_set (i := 5) scTurn.nd rfl (.inl rfl) (pe_dget hu (pv 3) (pv 2) (fun _ _ => rfl)))))))
      (pss_one (ps_dput hu (pe_fld (pv 0) rfl) (pv 2) (pv 1) rfl)))), ?_⟩
    refine ⟨hb, _, hh, trivial, fun od => ?_⟩
    generalize eF : upd H hb (.frz od (dS held)) = Hf
    have frz : Hf hb = some (.frz od (dS held)) := by rw [← eF]; exact upd_same
    have nx : x ≠ hb := Ne.symm (not_ins hx hh fun _ _ _ z => by cases z)
    have hxf : Hf x = some (.ins (He.ga K "Search") dx (fsSearch r d og ot hb)) := by rw [← eF, upd_ne nx]; exact hx
    refine ⟨_, rfl, x, _, dx, _, _, rfl, hxf, T.c_Search, T.n_Search_held_by, fsS_hb r d og ot hb, hb, od, _, rfl, frz, fun D hD => ?_⟩
    have few : held.length ≤ 24 := keys_few ok nd fun a y e => ro.sub y a (val a y e)
    have nDh : D ≠ hb := fun e => by rw [e, frz] at hD; cases hD
    refine turns_w Wk.items (fun i H' => Same Hf H' ∧ H' D = some (dS (invOf (held.take i)))) ⟨Same.new hD, upd_same⟩ (fun i H' _ p => p.1 _ _ frz) ?_ ?_
    · rintro i y H2 H2' hi ⟨s2, d2⟩ ⟨p, a, hp, rfl, ha, rfl⟩
      refine ⟨a, _, rfl, SqT.of upd_same, rfl, _, _, rfl, _, _, rfl, rfl, rfl, yesT ?_⟩
      have nDa : D ≠ a := ne_of_none d2 ha
      refine ⟨_, rfl, _, rfl, _, dput_s (l := invOf (held.take i)) (by rw [upd_ne nDa]; exact d2) p.2 p.1 ?_, ?_, ?_⟩
      · have := invOf_len (held.take i)
        rw [List.length_take] at this
        exact sz1000 (by omega)
      · exact Same.mut (Same.new' s2 ha) hD
      · rw [upd_same, take_snoc hp, invOf_snoc]
    · rintro H2 ⟨s2, d2⟩
      rw [List.take_length] at d2
      refine ⟨s2 _ _ frz, ?_⟩
      have sU : Same H (upd H2 hb (dS held)) := Same.unlock hh (by rw [eF]; exact s2)
      have d3 : (upd H2 hb (dS held)) D = some (dS (invOf held)) := by rw [upd_ne nDh]; exact d2
      have h3 : (upd H2 hb (dS held)) hb = some (dS held) := upd_same
      generalize upd H2 hb (dS held) = H3 at sU d3 h3 ⊢
      have len : (U ++ [t0])[U.length]? = some t0 := by simp
      obtain ⟨b0, g0, r0, o0⟩ := W.bk _ _ len
      have q0 := dget_s (h := V.str) (.inl (sU _ _ hba)) t0
      rw [g0] at q0
      refine ⟨_, rfl, _, rfl, ba, _, rfl, q0, ?_⟩
      refine ⟨fun m σ H' => ∃ (k : Nat) (t b : Str) (cur : List (Str × Str)), m = k ∧ σ = [some (.ref x), some (.str start), some (.str t), some (.ref ba), some (.ref D), some (.str b), none] ∧ But [hb] H H' ∧ H' hb = some (dS cur) ∧ H' D = some (dS (invOf held)) ∧ TO rw_ held (U ++ [t0]) k t cur ∧ gt bf t = some b,
        ⟨U.length, _, t0, b0, held, rfl, rfl, But.of sU, h3, d3, TO.init nd inj val ht0, g0⟩, ?_⟩
      rintro m σ H' ⟨k', t, b, cur, rfl, rfl, bt, hc, hD', to, gb⟩
      obtain ⟨b', gb', tb, o⟩ := W.bk _ _ to.at_
      rw [gb] at gb'
      cases gb'
      have hx' : H' x = some (.ins (He.ga K "Search") dx (fsSearch r d og ot hb)) := bt _ _ (fun m => nx (List.mem_singleton.mp m)) hx
      have hb' : H' ba = some (dS bf) := bt _ _ (fun m => nhb (List.mem_singleton.mp m).symm) hba
      have len2 : cur.length ≤ 24 := keys_few ok to.nd fun a y e => by
        by_cases c : a = t
        · rw [c]; exact ro.sub b t tb
        · exact ro.sub y a (to.val a y c e)
      refine ⟨_, rfl, _, rfl, ne_strs ⟨_, rfl, ?_⟩⟩
      by_cases c : b = start
      · rw [decide_eq_true c]
        refine iteF ?_
        subst c
        obtain ⟨f1, f2, f3⟩ := to.fin tb no
        refine ⟨_, rfl, _, rfl, x, _, dx, _, _, rfl, hx', T.c_Search, T.n_Search_held_by, fsS_hb r d og ot hb, _, rfl, hb, _, rfl, dput_s hc t b (sz1000 (by omega)), ?_⟩
        exact k _ _ (bt.trans (But.at (by simp))) upd_same f1 f2 f3
      · rw [decide_eq_false c]
        refine iteT ⟨_, fun σ' H' h => h, ?_⟩
        obtain ⟨j, v, hj, hv, e⟩ := o.resolve_left c
        have to2 := to.step W tb hj hv e
        refine ⟨_, rfl, _, rfl, x, _, dx, _, _, rfl, hx', T.c_Search, T.n_Search_held_by, fsS_hb r d og ot hb, _, rfl, hb, _, rfl, dput_s hc t b (sz1000 (by omega)), ?_⟩
        have nDh2 : D ≠ hb := nDh
        have hD2 : (upd H' hb (dS (put cur t b))) D = some (dS (invOf held)) := by rw [upd_ne nDh]; exact hD'
        have hb2 : (upd H' hb (dS (put cur t b))) ba = some (dS bf) := by rw [upd_ne (Ne.symm nhb)]; exact hb'
        have q1 := dget_s (h := V.str) (.inl hD2) b
        rw [(invOf_get held nd (fun t u x => inj t u x) b v).mpr e] at q1
        refine ⟨_, rfl, _, rfl, D, _, rfl, q1, ?_⟩
        obtain ⟨b2, g2, _, _⟩ := W.bk _ _ hv
        have q2 := dget_s (h := V.str) (.inl hb2) v
        rw [g2] at q2
        refine ⟨_, rfl, _, rfl, ba, _, rfl, q2, ?_⟩
        exact ⟨j, hj, j, v, b2, put cur t b, rfl, rfl, bt.trans (But.at (by simp)), upd_same, hD2, to2, g2⟩
end
end GF

/- DShift -/
set_option Elab.async false
set_option linter.all false
set_option maxRecDepth 100000
set_option maxHeartbeats 4000000
namespace GF
open PySem PySem.Spec PyProof.Rows L2 GR
abbrev dI (l : List (Str × Int)) : HO := .dK (mp ks V.int l)
theorem keys_put_old {α β : Type} [DecidableEq α] {l : List (α × β)} {k : α} {v : β} (h : k ∈ keys l) : keys (put l k v) = keys l := by rw [keys_put, if_pos h]
theorem len_of_keys {α β : Type} {l : List (α × β)} {ks' : List α} (h : keys l = ks') : l.length = ks'.length := by rw [← h]; unfold keys; rw [List.length_map]
/-- what shift is handed; what it leaves -/
def spShift (K : PySem.W.Frag) : Sp := fun vs H Q _ => ∃ (x r d og ot hb us sl dx : Addr) (held : List (Str × Str)) (eg et se : List (Str × Int)) (U : List Str) (start : Str) (n : Int), vs = [.ref x, .str start, .ref us, .ref sl, .int n] ∧
  H x = some (.ins (He.ga K "Search") dx (fsSearch r d og ot hb)) ∧ H og = some (dI eg) ∧ H ot = some (dI et) ∧ H hb = some (dS held) ∧ H us = some (dB U) ∧ H sl = some (dI se) ∧
  og ≠ ot ∧ og ≠ hb ∧ og ≠ us ∧ og ≠ sl ∧ ot ≠ hb ∧ ot ≠ us ∧ ot ≠ sl ∧ sl ≠ hb ∧ sl ≠ us ∧ hb ≠ us ∧ eg.length ≤ 1000 ∧ et.length ≤ 1000 ∧ se.length ≤ 1000 ∧ start ∈ keys eg ∧ (∀ u, u ∈ U → u ∈ keys et ∧ ∃ g, gt held u = some g ∧ g ∈ keys eg) ∧
  ∀ H' eg' et' se', But [og, ot, sl] H H' → H' og = some (dI eg') → H' ot = some (dI et') → H' sl = some (dI se') → keys eg' = keys eg → keys et' = keys et → keys se' = keys se → Q .non H'
abbrev nShift : List Str := ["self", "start", "used", "slack", "amount", "taker"]
theorem scShift : FnScope nShift ["self", "start", "used", "slack", "amount"] dSearchShift.scope := ⟨rfl, rfl, rfl, by decide +kernel, rfl, by decide +kernel, by decide +kernel⟩
section
variable {P : Program} {w : World} {K : PySem.W.Frag} {mg : Str → Option Value} {base : Heap}
theorem ok_shift (T : Tx K mg) : Ok P w K mg base CX0 1 dSearchShift ["self", "start", "used", "slack", "amount"] (spShift K) := by
  refine Ok.mk0 T _ ixSearchShift scShift (fun _ _ _ _ _ _ us hl => match us, hl with | [_, _, _, _, _], _ => rfl) (fun vs H Q E h => ?_) (fun f cdv A outer st H vs Q E hr h => ?_)
  · obtain ⟨x, r, d, og, ot, hb, us, sl, dx, held, eg, et, se, U, start, n, rfl, _⟩ := h
    rfl
  · have hu := hu_of hr
    obtain ⟨x, r, d, og, ot, hb, us, sl, dx, held, eg, et, se, U, start, n, rfl, hx, hog, hot, hhb, hus, hsl, n1, n2, n3, n4, n5, n6, n7, n8, n9, n10, l1, l2, l3, hst, hU, k⟩ := h
    refine ⟨_, pss_cons (ps_daug hu (pe_fld (pv 0) rfl) (pv 1) (pv 4) in_add (fun _ _ _ => rfl))
      (pss_cons (ps_lock (ps_for PassesOwn.never rfl (pi_keys (pv 2)) (pg_name (i := 5) scShift.nd rfl (.inl rfl))
        (pss_cons (ps_daug hu (pe_fld (pv 0) rfl) (pe_dget hu (pe_fld (pv 0) rfl) (pv 5) (fun _ _ => rfl)) (pv 4) in_add (fun _ _ _ => rfl))
        (pss_one (ps_daug hu (pe_fld (pv 0) rfl) (pv 5) (pv 4) in_sub (fun _ _ _ => rfl))))))
      (pss_one (ps_for PassesOwn.never rfl (pi_list (pe_callTy (call_listD rfl) (by rfl) T.f_list (by decide +kernel) (pa_cons (pv 3) pa_nil))) (pg_name (i := 5) scShift.nd rfl (.inl rfl))
        (pss_one (ps_daug hu (pv 3) (pv 5) (pv 4) in_sub (fun _ _ _ => rfl)))))), ?_⟩
    have nx : ∀ {a : Addr} {u : HO}, H a = some u → (∀ C dx fs, u ≠ .ins C dx fs) → a ≠ x := fun h n => not_ins hx h n
    have xog := nx hog fun _ _ _ z => by cases z
    have xot := nx hot fun _ _ _ z => by cases z
    have xus := nx hus fun _ _ _ z => by cases z
    have xsl := nx hsl fun _ _ _ z => by cases z
    obtain ⟨v0, g0⟩ := gt_key_some hst
    have q0 := dget_s (h := V.int) (.inl hog) start
    rw [g0] at q0
    refine ⟨_, rfl, x, _, dx, _, _, rfl, hx, T.c_Search, T.n_Search_of_givers, fsS_og r d og ot hb, _, rfl, og, _, rfl, q0, _, rfl, _, _, rfl, rfl, _, dput_s hog start _ (sz1000 (by omega)), ?_⟩
    have b1 : But [og, ot, sl] H (upd H og (dI (put eg start (v0 + n)))) := But.at (by simp)
    have hus1 : (upd H og (dI (put eg start (v0 + n)))) us = some (dB U) := by rw [upd_ne (Ne.symm n3)]; exact hus
    have hog1 : (upd H og (dI (put eg start (v0 + n)))) og = some (dI (put eg start (v0 + n))) := upd_same
    have ke1 : keys (put eg start (v0 + n)) = keys eg := keys_put_old hst
    generalize put eg start (v0 + n) = eg1 at b1 hus1 hog1 ke1 ⊢
    generalize eH1 : upd H og (dI eg1) = H1 at b1 hus1 hog1 ⊢
    have hot1 : H1 ot = some (dI et) := by rw [← eH1, upd_ne (Ne.symm n1)]; exact hot
    have hsl1 : H1 sl = some (dI se) := by rw [← eH1, upd_ne (Ne.symm n4)]; exact hsl
    refine ⟨us, _, hus1, trivial, fun od => ?_⟩
    generalize eF : upd H1 us (.frz od (dB U)) = Hf
    have frz : Hf us = some (.frz od (dB U)) := by rw [← eF]; exact upd_same
    have hF : ∀ {a : Addr}, a ≠ us → Hf a = H1 a := fun n => by rw [← eF, upd_ne n]
    have nxs : x ∉ [og, ot, sl] := by simp [Ne.symm xog, Ne.symm xot, Ne.symm xsl]
    have hxf : Hf x = some (.ins (He.ga K "Search") dx (fsSearch r d og ot hb)) := by rw [hF (Ne.symm xus)]; exact b1 _ _ nxs hx
    have nhs : hb ∉ [og, ot, sl] := by simp [Ne.symm n2, Ne.symm n5, Ne.symm n8]
    have hhf : Hf hb = some (dS held) := by rw [hF n10]; exact b1 _ _ nhs hhb
    have nus : us ∉ [og, ot, sl] := by simp [Ne.symm n3, Ne.symm n6, Ne.symm n9]
    refine ⟨_, rfl, us, od, rfl, .inl ⟨_, frz, for_w (Wk.keys (l := mkB U)) (fun i σ H' => ∃ v eg' et', σ = [some (.ref x), some (.str start), some (.ref us), some (.ref sl), some (.int n), v] ∧ But [og, ot, sl] Hf H' ∧ H' og = some (dI eg') ∧ H' ot = some (dI et') ∧ H' sl = some (dI se) ∧ keys eg' = keys eg ∧ keys et' = keys et)
      ⟨none, eg1, et, rfl, But.refl _ _, by rw [hF n3]; exact hog1, by rw [hF n6]; exact hot1, by rw [hF n9]; exact hsl1, ke1, rfl⟩ (fun i σ H' _ ⟨v, eg', et', _, b, _⟩ => b _ _ nus frz) ?_ ?_⟩⟩
    · rintro i y σ H' H'' hi ⟨v, eg', et', rfl, b, ho, hot', hs', kg, kt⟩ ⟨rfl, p, hp, rfl⟩
      obtain ⟨t, ht, ep⟩ : ∃ t, U[i]? = some t ∧ p = (t, true) := by
        unfold mkB at hp
        rw [List.getElem?_map] at hp
        cases e : U[i]? with
        | none => rw [e] at hp; cases hp
        | some t => rw [e] at hp; exact ⟨t, rfl, (Option.some.inj hp).symm⟩
      subst ep
      obtain ⟨tk, g, gh, gk⟩ := hU t (List.mem_of_getElem? ht)
      have hx2 := b _ _ nxs hxf
      have hh2 := b _ _ nhs hhf
      obtain ⟨vg, eg2⟩ := gt_key_some (l := eg') (k := g) (by rw [kg]; exact gk)
      obtain ⟨vt, et2⟩ := gt_key_some (l := et') (k := t) (by rw [kt]; exact tk)
      have q1 := dget_s (h := V.str) (.inl hh2) t
      rw [gh] at q1
      have q2 := dget_s (h := V.int) (.inl ho) g
      rw [eg2] at q2
      refine ⟨_, rfl, x, _, dx, _, _, rfl, hx2, T.c_Search, T.n_Search_of_givers, fsS_og r d og ot hb, _, rfl, x, _, dx, _, _, rfl, hx2, T.c_Search, T.n_Search_held_by, fsS_hb r d og ot hb, _, rfl, hb, _, rfl, q1, og, _, rfl, q2, _, rfl, _, _, rfl, rfl, _, dput_s ho g _ (sz1000 (by rw [len_of_keys kg]; have := len_of_keys (l := eg) rfl; omega)), ?_⟩
      have b3 : But [og, ot, sl] Hf (upd H'' og (dI (put eg' g (vg + n)))) := b.trans (But.at (by simp))
      have ho3 : (upd H'' og (dI (put eg' g (vg + n)))) ot = some (dI et') := by rw [upd_ne (Ne.symm n1)]; exact hot'
      have q3 := dget_s (h := V.int) (.inl ho3) t
      rw [et2] at q3
      refine ⟨_, rfl, x, _, dx, _, _, rfl, b3 _ _ nxs hxf, T.c_Search, T.n_Search_of_takers, fsS_ot r d og ot hb, _, rfl, ot, _, rfl, q3, _, rfl, _, _, rfl, rfl, _, dput_s ho3 t _ (sz1000 (by rw [len_of_keys kt]; have := len_of_keys (l := et) rfl; omega)), ?_⟩
      refine ⟨_, _, _, rfl, b3.trans (But.at (by simp)), by rw [upd_ne n1, upd_same], upd_same, by rw [upd_ne (Ne.symm n7), upd_ne (Ne.symm n4)]; exact hs', ?_, ?_⟩
      · rw [keys_put_old (by rw [kg]; exact gk), kg]
      · rw [keys_put_old (by rw [kt]; exact tk), kt]
    · rintro σ H2 ⟨v, eg', et', rfl, b, ho, hot', hs', kg, kt⟩
      refine ⟨b _ _ nus frz, ?_⟩
      have bU : But [og, ot, sl] H (upd H2 us (dB U)) := fun a o na e => by
        by_cases c : a = us
        · rw [c, hus] at e
          rw [c, upd_same, ← e]
        · rw [upd_ne c]
          exact b a o na (by rw [hF c]; exact b1 a o na e)
      have ho3 : (upd H2 us (dB U)) og = some (dI eg') := by rw [upd_ne n3]; exact ho
      have hot3 : (upd H2 us (dB U)) ot = some (dI et') := by rw [upd_ne n6]; exact hot'
      have hs3 : (upd H2 us (dB U)) sl = some (dI se) := by rw [upd_ne n9]; exact hs'
      generalize upd H2 us (dB U) = H3 at bU ho3 hot3 hs3 ⊢
      refine ⟨_, rfl, sl, _, rfl, .inl hs3, fun l hl => ?_⟩
      have hl4 : SqL K (upd H3 l (.lst ((mp ks V.int se).map fun kv => kV kv.1))) l ((keys se).map V.str) := SqL.of (by rw [upd_same, mp_keys])
      have ll : (upd H3 l (.lst ((mp ks V.int se).map fun kv => kV kv.1))) l = some (.lst ((keys se).map V.str)) := by rw [upd_same, mp_keys]
      have s4 : Same H3 (upd H3 l (.lst ((mp ks V.int se).map fun kv => kV kv.1))) := Same.new hl
      generalize upd H3 l (.lst ((mp ks V.int se).map fun kv => kV kv.1)) = H4 at hl4 ll s4 ⊢
      have nl : l ∉ [og, ot, sl] := by
        simp
        exact ⟨Ne.symm (ne_of_none ho3 hl), Ne.symm (ne_of_none hot3 hl), Ne.symm (ne_of_none hs3 hl)⟩
      refine ⟨l, rfl, ⟨_, hl4⟩, for_w (Wk.list (xs := (keys se).map V.str)) (fun i σ H' => ∃ v se', σ = [some (.ref x), some (.str start), some (.ref us), some (.ref sl), some (.int n), v] ∧ But [sl] H4 H' ∧ H' sl = some (dI se') ∧ keys se' = keys se) ⟨v, se, rfl, But.refl _ _, s4 _ _ hs3, rfl⟩
        (fun i σ H' _ ⟨v, se', _, b, _⟩ => .inl (.inl (b _ _ (by simp; exact Ne.symm (ne_of_none hs3 hl)) ll))) ?_ ?_⟩
      · rintro i y σ H' H'' hi ⟨v, se', rfl, b, hs, kse⟩ ⟨rfl, hy⟩
        obtain ⟨t, ht, rfl⟩ := map_get hy
        have tk : t ∈ keys se := List.mem_of_getElem? ht
        obtain ⟨vs, es⟩ := gt_key_some (l := se') (k := t) (by rw [kse]; exact tk)
        have q1 := dget_s (h := V.int) (.inl hs) t
        rw [es] at q1
        refine ⟨_, rfl, _, rfl, sl, _, rfl, q1, _, rfl, _, _, rfl, rfl, _, dput_s hs t _ (sz1000 (by rw [len_of_keys kse]; have := len_of_keys (l := se) rfl; omega)), ?_⟩
        exact ⟨_, _, rfl, b.trans (But.at (by simp)), upd_same, by rw [keys_put_old (by rw [kse]; exact tk), kse]⟩
      · rintro σ H5 ⟨v, se', rfl, b, hs, kse⟩
        have b5 : But [og, ot, sl] H H5 := (bU.trans (But.of s4)).trans (b.sub (by simp))
        exact k H5 eg' et' se' b5 (b _ _ (by simp [n4]) (s4 _ _ ho3)) (b _ _ (by simp [n7]) (s4 _ _ hot3)) hs kg kt kse
end
end GF

/- DGrow -/
set_option Elab.async false
set_option linter.all false
set_option maxRecDepth 100000
set_option maxHeartbeats 4000000
namespace GF
open PySem PySem.Spec PyProof.Rows L2 GR
/-- a search as it lies -/
structure SrAt (K : PySem.W.Frag) (H : Hp) (x r d og ot hb : Addr) (ps kt : List Str) (ad : Str → Addr) (rw_ : Str → List Str) (es : List ((Str × Str) × Int)) (pr : Str → Str → Int) (held : List (Str × Str)) (eg et : List (Str × Int)) : Prop where
  ins : ∃ dx, H x = some (.ins (He.ga K "Search") dx (fsSearch r d og ot hb))
  rows : RowsAt H r ps ad rw_
  prd : Rd H d (dP es)
  al : ∀ g t, g ∈ ps → t ∈ rw_ g → gt es (g, t) = some (pr g t)
  og_ : H og = some (dI eg)
  keg : keys eg = ps
  ot_ : H ot = some (dI et)
  ket : keys et = kt
  cov : ∀ g t, g ∈ ps → t ∈ rw_ g → t ∈ kt
  few : kt.length ≤ 1000
  hb_ : H hb = some (dS held)
  n1 : r ≠ og
  n2 : r ≠ ot
  n3 : r ≠ hb
  n4 : og ≠ ot
  n5 : og ≠ hb
  n6 : ot ≠ hb
theorem But.news {S S' : List Addr} {H H1 H2 : Hp} (b : But S H H1) (c : But S' H1 H2) (h : ∀ a, a ∈ S' → a ∈ S ∨ H a = none) : But S H H2 := fun a o n e => c a o (fun m => (h a m).elim n fun z => by rw [z] at e; cases e) (b a o n e)
theorem not3 {H : Hp} {og ot hb a : Addr} {u : HO} (h1 : ∃ l, H og = some (.dK l)) (h2 : ∃ l, H ot = some (.dK l)) (h3 : ∃ l, H hb = some (.dK l)) (h : H a = some u) (n : ∀ l, u ≠ .dK l) : a ∉ [og, ot, hb] := fun m => by
  obtain ⟨l1, h1⟩ := h1
  obtain ⟨l2, h2⟩ := h2
  obtain ⟨l3, h3⟩ := h3
  simp only [List.mem_cons, List.mem_nil_iff, or_false] at m
  rcases m with q | q | q
  · rw [q, h1] at h; cases h; exact n _ rfl
  · rw [q, h2] at h; cases h; exact n _ rfl
  · rw [q, h3] at h; cases h; exact n _ rfl
section
variable {K : PySem.W.Frag} {H H' : Hp} {x r d og ot hb : Addr} {ps kt : List Str} {ad : Str → Addr} {rw_ : Str → List Str} {es : List ((Str × Str) × Int)} {pr : Str → Str → Int} {held held' : List (Str × Str)} {eg et eg' et' : List (Str × Int)}
theorem SrAt.move (h : SrAt K H x r d og ot hb ps kt ad rw_ es pr held eg et) (b : But [og, ot, hb] H H') (e1 : H' og = some (dI eg')) (k1 : keys eg' = ps) (e2 : H' ot = some (dI et')) (k2 : keys et' = kt) (e3 : H' hb = some (dS held')) : SrAt K H' x r d og ot hb ps kt ad rw_ es pr held' eg' et' := by
  obtain ⟨dx, hx⟩ := h.ins
  have n3 : ∀ {a : Addr} {u : HO}, H a = some u → (∀ l, u ≠ .dK l) → a ∉ [og, ot, hb] := fun e n => not3 ⟨_, h.og_⟩ ⟨_, h.ot_⟩ ⟨_, h.hb_⟩ e n
  refine ⟨⟨dx, b _ _ (n3 hx fun _ z => by cases z) hx⟩, h.rows.but b (by simp [h.n1, h.n2, h.n3]) (fun a ha => ?_), ?_, h.al, e1, k1, e2, k2, h.cov, h.few, e3, h.n1, h.n2, h.n3, h.n4, h.n5, h.n6⟩
  · simp only [List.mem_cons, List.mem_nil_iff, or_false] at ha
    rcases ha with q | q | q
    · rw [q]; exact ⟨_, h.og_⟩
    · rw [q]; exact ⟨_, h.ot_⟩
    · rw [q]; exact ⟨_, h.hb_⟩
  · rcases h.prd with q | ⟨o, q⟩
    · exact .inl (b _ _ (n3 q fun _ z => by cases z) q)
    · exact .inr ⟨o, b _ _ (n3 q fun _ z => by cases z) q⟩
/-- new objects change nothing of it -/
theorem SrAt.two (h : SrAt K H x r d og ot hb ps kt ad rw_ es pr held eg et) (b : But [og, ot] H H') (e1 : H' og = some (dI eg')) (k1 : keys eg' = ps) (e2 : H' ot = some (dI et')) (k2 : keys et' = kt) : SrAt K H' x r d og ot hb ps kt ad rw_ es pr held eg' et' :=
  h.move (b.sub (by simp)) e1 k1 e2 k2 (b _ _ (by simp [Ne.symm h.n5, Ne.symm h.n6]) h.hb_)
end
def spGrow (K : PySem.W.Frag) : Sp := fun vs H Q _ => ∃ (x r d og ot hb : Addr) (ps kt : List Str) (ad : Str → Addr) (rw_ : Str → List Str) (es : List ((Str × Str) × Int)) (pr : Str → Str → Int) (held : List (Str × Str)) (eg et : List (Str × Int)) (done : List Str) (start : Str), vs = [.ref x, .str start] ∧
  SrAt K H x r d og ot hb ps kt ad rw_ es pr held eg et ∧ PeopleOk ps ∧ RowOk ps rw_ ∧ Held done rw_ held ∧ start ∈ ps ∧ start ∉ done ∧ (∀ z, z ∈ done → z ∈ ps) ∧ (∃ f, PM ps rw_ f) ∧
  ∀ H' held' eg' et', But [og, ot, hb] H H' → SrAt K H' x r d og ot hb ps kt ad rw_ es pr held' eg' et' → Held (done ++ [start]) rw_ held' → Q (.bl true) H'
abbrev nGrow : List Str := ["self", "start", "slack", "used", "before", "giver", "taker", "rest", "name"]
theorem scGrow : FnScope nGrow ["self", "start"] dSearchGrow.scope := ⟨rfl, rfl, rfl, by decide +kernel, rfl, by decide +kernel, by decide +kernel⟩
theorem drop_mp {β : Type} (h : β → V) (l : List (Str × β)) (t : Str) : dropK (mp ks h l) (ks t) = mp ks h (l.filter fun p => decide (p.1 ≠ t)) := by
  unfold dropK mp
  rw [List.filter_map]
  congr 1
  apply List.filter_congr
  intro p _
  show decide (ks p.1 ≠ ks t) = decide (p.1 ≠ t)
  exact decide_eq_decide.mpr ⟨fun z e => z (by rw [e]), fun z e => z (ks_inj _ _ e)⟩
theorem keys_drop {β : Type} (l : List (Str × β)) (t u : Str) : u ∈ keys (l.filter fun p => decide (p.1 ≠ t)) ↔ u ≠ t ∧ u ∈ keys l := by
  unfold keys
  rw [List.mem_map, List.mem_map]
  constructor
  · rintro ⟨p, hp, e⟩
    obtain ⟨h1, h2⟩ := List.mem_filter.mp hp
    exact ⟨by rw [← e]; exact of_decide_eq_true h2, p, h1, e⟩
  · rintro ⟨n, p, hp, e⟩
    exact ⟨p, List.mem_filter.mpr ⟨hp, decide_eq_true (by rw [e]; exact n)⟩, e⟩
theorem nd_drop {β : Type} {l : List (Str × β)} (n : (keys l).Nodup) (t : Str) : (keys (l.filter fun p => decide (p.1 ≠ t))).Nodup := by
  unfold keys at n ⊢
  exact n.sublist (List.filter_sublist.map _)
section
variable {P : Program} {w : World} {K : PySem.W.Frag} {mg : Str → Option Value} {base : Heap}
theorem ok_grow (T : Tx K mg) : Ok P w K mg base CX0 2 dSearchGrow ["self", "start"] (spGrow K) := by
  obtain ⟨fdS, FS, bS⟩ := (ok_shift (P := P) (w := w) (base := base) T).ex
  obtain ⟨fdT, FT, bT⟩ := (ok_turn (P := P) (w := w) (base := base) T).ex
  refine Ok.mk0 T _ ixSearchGrow scGrow (fun _ _ _ _ _ _ us hl => match us, hl with | [_, _], _ => rfl) (fun vs H Q E h => ?_) (fun f cdv A outer st H vs Q E hr h => ?_)
  · obtain ⟨x, r, d, og, ot, hb, ps, kt, ad, rw_, es, pr, held, eg, et, done, start, rfl, _⟩ := h
    rfl
  · have hu := hu_of hr
    obtain ⟨x, r, d, og, ot, hb, ps, kt, ad, rw_, es, pr, held, eg, et, done, start, rfl, A0, ok, ro, hl, sin, sno, dsub, full, k⟩ := h
    refine ⟨_, pss_cons (ps_set (i := 2) scGrow.nd rfl (.inr rfl) pe_dnewK)
      (pss_cons (ps_set (i := 3) scGrow.nd rfl (.inl rfl) pe_dnewK)
      (pss_cons (ps_set (i := 4) scGrow.nd rfl (.inl rfl) pe_dnewK)
      (pss_cons (ps_set (i := 5) scGrow.nd rfl (.inl rfl) (pv 1))
      (pss_cons (ps_while PassesOwn.never (pt_val pe_bl)
        (pss_cons (ps_for PassesOwn.never rfl (pi_list (pe_dget hu (pe_fld (pv 0) rfl) (pv 5) (fun _ _ => rfl))) (pg_name (i := 6) scGrow.nd rfl (.inl rfl))
          (pss_cons (ps_set (i := 7) scGrow.nd rfl (.inl rfl) (pe_op op_sub (pe_op op_sub (pe_dget hu (pe_fld (pv 0) rfl) (pe_tup (pa_cons (pv 5) (pa_cons (pv 6) pa_nil))) (fun _ _ => rfl)) (pe_dget hu (pe_fld (pv 0) rfl) (pv 5) (fun _ _ => rfl))) (pe_dget hu (pe_fld (pv 0) rfl) (pv 6) (fun _ _ => rfl))))
          (pss_one (ps_if (PW.pt (pw_and (pt_cmp (pc_dnotin hu (pv 6) (pv 3)) rfl) (pw_and1 (PW.pt (pw_or (pt_cmp (pc_dnotin hu (pv 6) (pv 2)) rfl) (pw_or1 (pt_cmpR op_lt (pv 7) (pe_dget hu (pv 2) (pv 6) (fun _ _ => rfl)) (nomark _))))))))
            (pss_cons (ps_dput hu (pv 2) (pv 6) (pv 7) rfl) (pss_one (ps_dput hu (pv 4) (pv 6) (pv 5) rfl))) pss_nil))))
        (pss_cons (ps_if (pt_not (pt_truth (pv 2) (fun _ => rfl))) (pss_one (ps_ret pe_bl)) pss_nil)
        (pss_cons (ps_set (i := 6) scGrow.nd rfl (.inl rfl) (pe_ix ix_tup (pe_callB (cr_minT rfl hr.units) (by rfl) T.f_min (by decide +kernel) (pa_cons (pe_lock (pe_lc (own := [("name", 8)]) (g := gName 8) (tt := tYes) rfl scGrow.nd (pi_keys (pv 2)) (blkOk_by (N := nGrow) (sc := dSearchGrow.scope) (by decide +kernel))
            (fun _ _ _ _ _ => pg_name (i := 8) scGrow.nd rfl (.inl rfl)) (fun _ _ _ _ _ => pts_nil) (fun _ _ _ _ _ => pe_tup (pa_cons (pe_dget hu (pv 2) (pv 8) (fun _ _ => rfl)) (pa_cons (pv 8) pa_nil))))) pa_nil)) pe_int (fun _ _ => rfl)))
        (pss_cons (ps_expr (pe_meth (pv 0) T.c_Search T.m_Search_shift FS (hr.mono (by decide)) bS .nil pass0 (pa_cons (pv 1) (pa_cons (pv 3) (pa_cons (pv 2) (pa_cons (pe_dget hu (pv 2) (pv 6) (fun _ _ => rfl)) pa_nil))))))
        (pss_cons (ps_expr (pe_dpop1 (pv 2) (pv 6) ⟨rfl, rfl, rfl, rfl⟩))
        (pss_cons (ps_dput hu (pv 3) (pv 6) pe_bl rfl)
        (pss_cons (ps_if (pt_cmp (pc_dnotin hu (pv 6) (pe_fld (pv 0) rfl)) rfl) (pss_one ps_break) pss_nil)
        (pss_one (ps_set (i := 5) scGrow.nd rfl (.inl rfl) (pe_dget hu (pe_fld (pv 0) rfl) (pv 6) (fun _ _ => rfl))))))))))))
      (pss_cons (ps_expr (pe_meth (pv 0) T.c_Search T.m_Search_turn_over FT (hr.mono (by decide)) bT .nil pass0 (pa_cons (pv 1) (pa_cons (pv 6) (pa_cons (pv 4) pa_nil)))))
      (pss_one (ps_ret pe_bl))))))), ?_⟩
    intro sl hsl us hus ba hba
    obtain ⟨dx, hx⟩ := A0.ins
    have nslus : sl ≠ us := ne_of_none upd_same hus
    have hsl1 : (upd (upd H sl (.dK [])) us (.dK [])) sl = some (.dK []) := Same.new hus _ _ upd_same
    have nslba : sl ≠ ba := ne_of_none hsl1 hba
    have nusba : us ≠ ba := ne_of_none upd_same hba
    have hus0 : H us = none := by rw [upd_ne (Ne.symm nslus)] at hus; exact hus
    have hba0 : H ba = none := by rw [upd_ne (Ne.symm nusba), upd_ne (Ne.symm nslba)] at hba; exact hba
    have S0 : Same H (upd (upd (upd H sl (.dK [])) us (.dK [])) ba (.dK [])) := Same.new' (Same.new' (Same.new hsl) hus) hba
    generalize eH1 : upd (upd (upd H sl (.dK [])) us (.dK [])) ba (.dK []) = H1 at S0 ⊢
    have c1 : H1 sl = some (dI []) := by rw [← eH1]; exact Same.new hba _ _ hsl1
    have c2 : H1 us = some (dB []) := by rw [← eH1, upd_ne nusba]; exact upd_same
    have c3 : H1 ba = some (dS []) := by rw [← eH1]; exact upd_same
    have ex : ∀ {a : Addr} {u : HO}, H a = some u → a ≠ sl ∧ a ≠ us ∧ a ≠ ba := fun e => ⟨ne_of_none e hsl, ne_of_none e hus0, ne_of_none e hba0⟩
    have nbs : ba ≠ sl := Ne.symm nslba
    obtain ⟨o1, o2, o3⟩ := ex A0.og_
    obtain ⟨p1, p2, p3⟩ := ex A0.ot_
    obtain ⟨h1, h2, h3⟩ := ex A0.hb_
    refine ⟨_, rfl, ?_⟩
    refine ⟨fun m σ H' => ∃ (giver : Str) (U : List Str) (bf : List (Str × Str)) (se eg' et' : List (Str × Int)) (v6 v7 : Option V), m = 24 - U.length ∧ σ = [some (.ref x), some (.str start), some (.ref sl), some (.ref us), some (.ref ba), some (.str giver), v6, v7, none] ∧
      But [og, ot] H H' ∧ H' og = some (dI eg') ∧ keys eg' = ps ∧ H' ot = some (dI et') ∧ keys et' = kt ∧ H' sl = some (dI se) ∧ H' us = some (dB U) ∧ H' ba = some (dS bf) ∧ giver ∈ ps ∧ (keys se).Nodup ∧ (keys bf).Nodup ∧ (∀ t, t ∈ keys bf → t ∈ ps) ∧ GI rw_ held start giver U bf (keys se),
      ⟨24, start, [], [], [], eg, et, none, none, rfl, rfl, But.of S0, S0 _ _ A0.og_, A0.keg, S0 _ _ A0.ot_, A0.ket, c1, c2, c3, sin, List.nodup_nil, List.nodup_nil, by simp [keys], GI.init⟩, ?_⟩
    rintro m σ H' ⟨giver, U, bf, se, eg', et', v6, v7, rfl, rfl, bt, hog, kog, hot, kot, hs, hus', hb', gin, ns, nb, sb, gi⟩
    refine ⟨_, rfl, iteT ⟨_, fun σ' H' h => h, ?_⟩⟩
    have A1 := A0.two bt hog kog hot kot
    obtain ⟨dx1, hx1⟩ := A1.ins
    have Usub : ∀ u, u ∈ U → u ∈ ps := fun u hu => by
      obtain ⟨i, hi, e⟩ := List.mem_iff_getElem.mp hu
      obtain ⟨b, _, q, _⟩ := gi.bfU i u (by rw [List.getElem?_eq_getElem hi, e])
      exact ro.sub b u q
    have Ulen : U.length ≤ 24 := Nat.le_trans (len_le_of_sub gi.und Usub) ok.hi
    -- the giver's takers are looked at
    refine ⟨_, rfl, x, _, dx1, _, _, rfl, hx1, T.c_Search, T.n_Search_ahead, fsS_ahead r d og ot hb, _, rfl, r, _, rfl, A1.rows.get gin, ad giver, rfl, ⟨_, A1.rows.seq gin⟩, ?_⟩
    have lens : ∀ {se4 : List (Str × Int)} {bf4 : List (Str × Str)} {j : Nat}, (keys se4).Nodup → (keys bf4).Nodup → (∀ t, t ∈ keys bf4 → t ∈ ps) → GL rw_ held start giver U j bf4 (keys se4) → se4.length ≤ 24 ∧ bf4.length ≤ 24 := fun n1 n2 s g => by
      have e1 := Nat.le_trans (len_le_of_sub n1 fun t ht => (by obtain ⟨b, _, q, _⟩ := g.gi.bfS t ht; exact ro.sub b t q : t ∈ ps)) ok.hi
      have e2 := Nat.le_trans (len_le_of_sub n2 s) ok.hi
      unfold keys at e1 e2
      rw [List.length_map] at e1 e2
      exact ⟨e1, e2⟩
    have nn : ∀ {a : Addr} {u : HO}, H' a = some u → a ≠ sl → a ≠ ba → a ∉ [sl, ba] := fun _ n1 n2 => by simp [n1, n2]
    refine for_w (Wk.list (xs := (rw_ giver).map V.str)) (fun j σ H4 => ∃ (se4 : List (Str × Int)) (bf4 : List (Str × Str)) (v6 v7 : Option V), σ = [some (.ref x), some (.str start), some (.ref sl), some (.ref us), some (.ref ba), some (.str giver), v6, v7, none] ∧
        But [sl, ba] H' H4 ∧ H4 sl = some (dI se4) ∧ H4 ba = some (dS bf4) ∧ (keys se4).Nodup ∧ (keys bf4).Nodup ∧ (∀ t, t ∈ keys bf4 → t ∈ ps) ∧ GL rw_ held start giver U j bf4 (keys se4))
      ⟨se, bf, v6, v7, rfl, But.refl _ _, hs, hb', ns, nb, sb, gi.loop⟩ (fun j σ H4 _ ⟨se4, bf4, _, _, _, b4, _⟩ => ?_) ?_ ?_
    · have q : RowsAt H4 r ps ad rw_ := by
        refine A1.rows.but b4 ?_ fun a ha => ?_
        · have e := A0.rows.dk
          rcases e with e | ⟨o, e⟩
          · simp [(ex e).1, (ex e).2.2]
          · simp [(ex e).1, (ex e).2.2]
        · simp only [List.mem_cons, List.mem_nil_iff, or_false] at ha
          rcases ha with q | q
          · rw [q]; exact ⟨_, hs⟩
          · rw [q]; exact ⟨_, hb'⟩
      exact q.seq gin
    · rintro j y σ H3 H4 hj ⟨se4, bf4, v6, v7, rfl, b4, hs4, hb4, ns4, nb4, sb4, gl4⟩ ⟨rfl, hy⟩
      obtain ⟨t, ht, rfl⟩ := map_get hy
      have tin : t ∈ rw_ giver := List.mem_of_getElem? ht
      have tp : t ∈ ps := ro.sub giver t tin
      obtain ⟨len1, len2⟩ := lens ns4 nb4 sb4 gl4
      have hx4 := b4 _ _ (nn hx1 (ex hx).1 (ex hx).2.2) hx1
      have hog4 := b4 _ _ (nn hog o1 o3) hog
      have hot4 := b4 _ _ (nn hot p1 p3) hot
      have hus4 := b4 _ _ (nn hus' (Ne.symm nslus) nusba) hus'
      have prd4 : Rd H4 d (dP es) := by
        rcases A0.prd with e | ⟨o, e⟩
        · exact b4.rd (by simp [(ex e).1, (ex e).2.2]) A1.prd
        · exact b4.rd (by simp [(ex e).1, (ex e).2.2]) A1.prd
      refine ⟨_, rfl, x, _, dx1, _, _, rfl, hx4, T.c_Search, T.n_Search_priced, fsS_priced r d og ot hb, _, rfl, _, rfl, by show 2 ≤ sizeLine; decide, fun a ha => ?_⟩
      have s5 : Same H4 (upd H4 a (.tup [.str giver, .str t])) := Same.new ha
      have q1 := dget_t (x := (giver, t)) (b := a) ((Lq.of s5).rd _ _ trivial prd4) upd_same
      rw [A0.al giver t gin tin] at q1
      have na : ∀ {b : Addr} {u : HO}, H4 b = some u → b ≠ a := fun e => ne_of_none e ha
      have b5 : But [sl, ba] H' (upd H4 a (.tup [.str giver, .str t])) := b4.trans (But.of s5)
      have hx5 := s5 _ _ hx4
      have hog5 := s5 _ _ hog4
      have hot5 := s5 _ _ hot4
      have hus5 := s5 _ _ hus4
      have hs5 := s5 _ _ hs4
      have hb5 := s5 _ _ hb4
      clear hx4 hog4 hot4 hus4 prd4 b4
      generalize upd H4 a (.tup [.str giver, .str t]) = H5 at q1 b5 hx5 hog5 hot5 hus5 hs5 hb5 ⊢
      clear hs4 hb4 s5 na
      have hs4 := hs5
      have hb4 := hb5
      have b4 := b5
      obtain ⟨v1, e1⟩ := gt_key_some (l := eg') (k := giver) (by rw [kog]; exact gin)
      have q2 := dget_s (h := V.int) (.inl hog5) giver
      rw [e1] at q2
      obtain ⟨v2, e2⟩ := gt_key_some (l := et') (k := t) (by rw [kot]; exact A0.cov giver t gin tin)
      have q3 := dget_s (h := V.int) (.inl hot5) t
      rw [e2] at q3
      refine ⟨d, _, rfl, q1, _, rfl, x, _, dx1, _, _, rfl, hx5, T.c_Search, T.n_Search_of_givers, fsS_og r d og ot hb, _, rfl, og, _, rfl, q2, _, _, rfl, rfl, ?_⟩
      refine ⟨_, rfl, x, _, dx1, _, _, rfl, hx5, T.c_Search, T.n_Search_of_takers, fsS_ot r d og ot hb, _, rfl, ot, _, rfl, q3, _, _, rfl, rfl, ?_⟩
      refine ⟨_, rfl, _, rfl, us, _, rfl, dget_s (.inl hus5) t, _, rfl, ?_⟩
      rw [gt_mkB]
      by_cases tU : t ∈ U
      · rw [if_pos tU]
        exact iteF ⟨se4, bf4, _, _, rfl, b5, hs5, hb5, ns4, nb4, sb4, gl4.stay ht (.inl tU)⟩
      · rw [if_neg tU]
        refine iteT ⟨_, rfl, _, rfl, sl, _, rfl, dget_s (.inl hs5) t, _, rfl, ?_⟩
        cases e3 : gt se4 t with
        | none =>
          refine iteT (iteT ?_)
          refine ⟨_, rfl, _, rfl, _, rfl, sl, _, rfl, dput_s hs4 t _ (sz1000 (by omega)), ?_⟩
          refine ⟨_, rfl, _, rfl, _, rfl, ba, _, rfl, dput_s (by rw [upd_ne nbs]; exact hb4) t giver (sz1000 (by omega)), ?_⟩
          refine ⟨_, put bf4 t giver, _, _, rfl, (b4.trans (But.at (by simp))).trans (But.at (by simp)), by rw [upd_ne (Ne.symm nbs), upd_same], upd_same, nd_put _ ns4, nd_put _ nb4, fun u hu => ?_, gl4.set ht tU fun u => mem_keys_put⟩
          rcases mem_keys_put.mp hu with q | q
          · rw [q]; exact tp
          · exact sb4 u q
        | some vs =>
          refine iteF ?_
          have q4 := dget_s (h := V.int) (.inl hs5) t
          rw [e3] at q4
          refine ⟨_, rfl, _, rfl, _, rfl, sl, _, rfl, q4, _, _, rfl, rfl, _, rfl, ?_⟩
          by_cases lt : pr giver t - v1 - v2 < vs
          · rw [decide_eq_true lt]
            refine iteT ?_
            refine ⟨_, rfl, _, rfl, _, rfl, sl, _, rfl, dput_s hs4 t _ (sz1000 (by omega)), ?_⟩
            refine ⟨_, rfl, _, rfl, _, rfl, ba, _, rfl, dput_s (by rw [upd_ne nbs]; exact hb4) t giver (sz1000 (by omega)), ?_⟩
            refine ⟨_, put bf4 t giver, _, _, rfl, (b4.trans (But.at (by simp))).trans (But.at (by simp)), by rw [upd_ne (Ne.symm nbs), upd_same], upd_same, nd_put _ ns4, nd_put _ nb4, fun u hu => ?_, gl4.set ht tU fun u => mem_keys_put⟩
            rcases mem_keys_put.mp hu with q | q
            · rw [q]; exact tp
            · exact sb4 u q
          · rw [decide_eq_false lt]
            exact iteF ⟨se4, bf4, _, _, rfl, b5, hs5, hb5, ns4, nb4, sb4, gl4.stay ht (.inr (gt_some_key e3))⟩
    · rintro σ H4 ⟨se4, bf4, v6, v7, rfl, b4, hs4, hb4, ns4, nb4, sb4, gl4⟩
      rw [List.length_map] at gl4
      obtain ⟨len1, len2⟩ := lens ns4 nb4 sb4 gl4
      have hx4 := b4 _ _ (nn hx1 (ex hx).1 (ex hx).2.2) hx1
      have hog4 := b4 _ _ (nn hog o1 o3) hog
      have hot4 := b4 _ _ (nn hot p1 p3) hot
      have hus4 := b4 _ _ (nn hus' (Ne.symm nslus) nusba) hus'
      have bt4 : But [og, ot] H H4 := bt.news b4 fun a ha => by
        simp only [List.mem_cons, List.mem_nil_iff, or_false] at ha
        rcases ha with q | q
        · rw [q]; exact .inr hsl
        · rw [q]; exact .inr hba0
      refine ⟨_, rfl, _, .inr (.inr ⟨_, hs4, rfl⟩), ?_⟩
      cases se4 with
      | nil =>
        exfalso
        have sk : SkF rw_ start held [] U := GL.stuck gl4
        exact (hl.hall (gs := ps) sno (fun z hz => by
          rcases hz with q | q
          · exact dsub z q
          · rw [q]; exact sin) sk gi.und).no full
      | cons p0 ps0 =>
        refine iteF ?_
        generalize e0 : p0 :: ps0 = se4 at hs4 ns4 gl4 len1
        have ne4 : se4 ≠ [] := by rw [← e0]; simp
        clear e0
        refine ⟨sl, _, hs4, trivial, fun od => ?_⟩
        have frz : (upd H4 sl (.frz od (dI se4))) sl = some (.frz od (dI se4)) := upd_same
        refine ⟨_, rfl, sl, od, rfl, .inl ⟨_, frz, fun D hD => ?_⟩⟩
        have nDs : D ≠ sl := fun e => by rw [e, frz] at hD; cases hD
        refine lco_w Wk.keys (fun i H' => ∃ qs : List (Addr × (Int × Str)), Same (upd H4 sl (.frz od (dI se4))) H' ∧ H' D = some (.lst (refs qs)) ∧ NamesAt H' qs ∧ qs.map (·.2.2) = (keys se4).take i) ⟨[], Same.new hD, upd_same, fun q m => absurd m (by simp), by simp⟩ (fun i H' _ ⟨qs, s, _⟩ => s _ _ frz) ?_ ?_
        · rintro i y H5 H5' hi ⟨qs, s5, d5, q5, e5⟩ ⟨rfl, p, hp, rfl⟩
          have g5 : gt se4 p.1 = some p.2 := gt_of_mem ns4 (List.mem_of_getElem? hp)
          have q1 := dget_s (h := V.int) (.inr ⟨od, s5 _ _ frz⟩) p.1
          rw [g5] at q1
          refine ⟨rfl, yesT ?_⟩
          refine ⟨_, rfl, _, rfl, sl, _, rfl, q1, _, rfl, by show 2 ≤ sizeLine; decide, fun a ha => ?_⟩
          have nDa : D ≠ a := ne_of_none d5 ha
          refine ⟨refs qs, by rw [upd_ne nDa]; exact d5, ?_, qs ++ [(a, (p.2, p.1))], Same.mut (Same.new' s5 ha) hD, by rw [upd_same]; unfold refs; rw [List.map_append]; rfl, fun q hq => ?_, ?_⟩
          · have e := congrArg List.length e5
            rw [List.length_map, List.length_take] at e
            unfold keys at e
            rw [List.length_map] at e
            rw [refs_len]
            exact sz1000 (by omega)
          · rcases List.mem_append.mp hq with m | m
            · have e := q5 q m
              have h1 : q.1 ≠ D := fun z => by rw [z, d5] at e; cases e
              have h2 : q.1 ≠ a := fun z => by rw [z, ha] at e; cases e
              rw [upd_ne h1, upd_ne h2]
              exact e
            · rw [List.mem_singleton.mp m]
              show upd (upd H5' a _) D _ a = _
              rw [upd_ne (Ne.symm nDa), upd_same]
          · have hk : (keys se4)[i]? = some p.1 := by unfold keys; rw [List.getElem?_map, hp]; rfl
            rw [List.map_append, e5, take_snoc hk]
            rfl
        · rintro H5 ⟨qs, s5, d5, q5, e5⟩
          have e5' : qs.map (·.2.2) = keys se4 := by rw [e5]; unfold keys; rw [← List.length_map (as := se4) (f := fun x => x.1), List.take_length]
          refine ⟨s5 _ _ frz, ?_⟩
          have sU : Same H4 (upd H5 sl (dI se4)) := Same.unlock hs4 s5
          have q6 : NamesAt (upd H5 sl (dI se4)) qs := fun q m => by
            have e := q5 q m
            rw [upd_ne fun z => by rw [z, s5 _ _ frz] at e; cases e]
            exact e
          have d6 : (upd H5 sl (dI se4)) D = some (.lst (refs qs)) := by rw [upd_ne nDs]; exact d5
          have hs6 : (upd H5 sl (dI se4)) sl = some (dI se4) := upd_same
          generalize upd H5 sl (dI se4) = H6 at sU q6 d6 hs6 ⊢
          refine ⟨D, qs, rfl, SqL.of d6, q6, fun e => ?_, fun q hq => ?_⟩
          · rw [e] at e5'
            have : se4 = [] := by
              unfold keys at e5'
              exact List.map_eq_nil_iff.mp e5'.symm
            exact ne4 this
          · have tk : q.2.2 ∈ keys se4 := by rw [← e5']; exact List.mem_map.mpr ⟨q, hq, rfl⟩
            refine ⟨q.1, _, 1, _, rfl, rfl, SqT.of (q6 q hq), rfl, ?_⟩
            generalize q.2.2 = t at tk ⊢
            obtain ⟨b0, gb0, tb0, ob0⟩ := gl4.gi.bfS t tk
            have tp : t ∈ ps := ro.sub b0 t tb0
            have tU : t ∉ U := gl4.gi.dis t tk
            obtain ⟨vt, et4⟩ := gt_key_some tk
            have q7 := dget_s (h := V.int) (.inl hs6) t
            rw [et4] at q7
            have hx6 := sU _ _ hx4
            have hog6 := sU _ _ hog4
            have hot6 := sU _ _ hot4
            have hus6 := sU _ _ hus4
            have hb6 := sU _ _ hb4
            have bt6 : But [og, ot] H H6 := bt4.trans (But.of sU)
            have hh6 : H6 hb = some (dS held) := bt6 _ _ (by simp [Ne.symm A0.n5, Ne.symm A0.n6]) A0.hb_
            have reach : ∀ z, (z = start ∨ ∃ u, u ∈ U ∧ gt held u = some z) → z ∈ ps := fun z hz => by
              rcases hz with q | ⟨u, _, e⟩
              · rw [q]; exact sin
              · exact dsub z ((hl.rng z).mp ⟨u, e⟩)
            have tkt : t ∈ kt := A0.cov b0 t (reach b0 ob0) tb0
            have elen : eg'.length ≤ 1000 := by
              have := len_of_keys kog
              have := ok.hi
              omega
            have tlen : et'.length ≤ 1000 := by
              have := len_of_keys kot
              have := A0.few
              omega
            refine ⟨_, rfl, x, dx1, _, rfl, hx6, fsS_no r d og ot hb (by decide +kernel) (by decide +kernel) (by decide +kernel) (by decide +kernel) (by decide +kernel), _, rfl, _, rfl, _, rfl, _, rfl, _, rfl, sl, _, rfl, q7, ?_⟩
            refine ⟨x, r, d, og, ot, hb, us, sl, dx1, held, eg', et', se4, U, start, vt, rfl, hx6, hog6, hot6, hh6, hus6, hs6, A0.n4, A0.n5, o2, o1, A0.n6, p2, p1, Ne.symm h1, nslus, h2, elen, tlen, by omega, by rw [kog]; exact sin, fun u hu => ?_, fun H7 eg7 et7 se7 b7 hog7 hot7 hs7 kg7 kt7 ks7 => ?_⟩
            · obtain ⟨i, hi, e⟩ := List.mem_iff_getElem.mp hu
              obtain ⟨b, _, q1, q2⟩ := gi.bfU i u (by rw [List.getElem?_eq_getElem hi, e])
              have rb : b ∈ ps := reach b (q2.imp id fun ⟨j, v, _, hv, e⟩ => ⟨v, List.mem_of_getElem? hv, e⟩)
              obtain ⟨z, hz⟩ := gi.hu u hu
              exact ⟨by rw [kot]; exact A0.cov b u rb q1, z, hz, by rw [kog]; exact reach z (.inr ⟨u, hu, hz⟩)⟩
            · have bt7 : But [og, ot] H H7 := bt6.news b7 fun a ha => by
                simp only [List.mem_cons, List.mem_nil_iff, or_false] at ha
                rcases ha with q | q | q
                · rw [q]; exact .inl (by simp)
                · rw [q]; exact .inl (by simp)
                · rw [q]; exact .inr hsl
              have n7 : ∀ {a : Addr}, a ≠ og → a ≠ ot → a ≠ sl → a ∉ [og, ot, sl] := fun h1 h2 h3 => by simp [h1, h2, h3]
              have hus7 := b7 _ _ (n7 (Ne.symm o2) (Ne.symm p2) (Ne.symm nslus)) hus6
              have hb7 := b7 _ _ (n7 (Ne.symm o3) (Ne.symm p3) nbs) hb6
              have tk7 : t ∈ keys se7 := by rw [ks7]; exact tk
              obtain ⟨w7, gw7⟩ := gt_key_some tk7
              refine ⟨_, rfl, sl, rfl, .inl ⟨_, .inl hs7⟩, _, rfl, _, ks t, V.int w7, hs7, rfl, by rw [valV_mp ks_inj, gw7]; rfl, ?_⟩
              rw [drop_mp]
              have kd : ∀ u, u ∈ keys (se7.filter fun p => decide (p.1 ≠ t)) ↔ u ≠ t ∧ u ∈ keys se4 := fun u => by rw [keys_drop, ks7]
              have nd8 := nd_drop (l := se7) (by rw [ks7]; exact ns4) t
              generalize se7.filter (fun p => decide (p.1 ≠ t)) = se8 at kd nd8 ⊢
              have hus8 : (upd H7 sl (dI se8)) us = some (dB U) := by rw [upd_ne (Ne.symm nslus)]; exact hus7
              refine ⟨_, rfl, _, rfl, us, _, rfl, dput_s hus8 t true (by rw [mkB_len]; exact sz1000 (by omega)), ?_⟩
              rw [put_mkB tU]
              have bt9 : But [og, ot] H (upd (upd H7 sl (dI se8)) us (dB (U ++ [t]))) := bt7.news ((But.at (S := [sl, us]) (by simp)).trans (But.at (by simp))) fun a ha => by
                simp only [List.mem_cons, List.mem_nil_iff, or_false] at ha
                rcases ha with q | q
                · rw [q]; exact .inr hsl
                · rw [q]; exact .inr hus0
              have f1 : (upd (upd H7 sl (dI se8)) us (dB (U ++ [t]))) sl = some (dI se8) := by rw [upd_ne nslus, upd_same]
              have f2 : (upd (upd H7 sl (dI se8)) us (dB (U ++ [t]))) us = some (dB (U ++ [t])) := upd_same
              have f3 : (upd (upd H7 sl (dI se8)) us (dB (U ++ [t]))) ba = some (dS bf4) := by rw [upd_ne (Ne.symm nusba), upd_ne nbs]; exact hb7
              have f4 : (upd (upd H7 sl (dI se8)) us (dB (U ++ [t]))) og = some (dI eg7) := by rw [upd_ne o2, upd_ne o1]; exact hog7
              have f5 : (upd (upd H7 sl (dI se8)) us (dB (U ++ [t]))) ot = some (dI et7) := by rw [upd_ne p2, upd_ne p1]; exact hot7
              generalize upd (upd H7 sl (dI se8)) us (dB (U ++ [t])) = H9 at bt9 f1 f2 f3 f4 f5 ⊢
              have A9 := A0.two bt9 f4 (by rw [kg7]; exact kog) f5 (by rw [kt7]; exact kot)
              obtain ⟨dx9, hx9⟩ := A9.ins
              have q9 := dget_s (h := V.str) (.inl A9.hb_) t
              refine ⟨_, rfl, _, rfl, x, _, dx9, _, _, rfl, hx9, T.c_Search, T.n_Search_held_by, fsS_hb r d og ot hb, hb, _, rfl, q9, _, rfl, ?_⟩
              have W9 := gl4.gi.way tk
              have U9 : (U ++ [t]).length ≤ 24 := Nat.le_trans (len_le_of_sub W9.nd fun u hu => by
                rcases List.mem_append.mp hu with q | q
                · exact Usub u q
                · rw [List.mem_singleton.mp q]; exact tp) ok.hi
              cases hh : gt held t with
              | none =>
                refine iteT ?_
                refine ⟨_, rfl, x, dx9, _, rfl, hx9, fsS_no r d og ot hb (by decide +kernel) (by decide +kernel) (by decide +kernel) (by decide +kernel) (by decide +kernel), _, rfl, _, rfl, _, rfl, ?_⟩
                refine ⟨x, r, d, og, ot, hb, ba, dx9, ps, rw_, held, bf4, U, start, t, rfl, hx9, A9.hb_, f3, h3, ok, ro, hl.nd, hl.inj, hl.val, W9, hh, fun a e => sno ((hl.rng start).mp ⟨a, e⟩), fun H10 held' b10 hh10 sk nd10 val10 => ?_⟩
                have b11 : But [og, ot, hb] H H10 := (bt9.sub (by simp)).trans (b10.sub (by simp))
                have og10 := b10 _ _ (by simp [A0.n5]) f4
                have ot10 := b10 _ _ (by simp [A0.n6]) f5
                exact k H10 held' eg7 et7 b11 (A0.move b11 og10 (by rw [kg7]; exact kog) ot10 (by rw [kt7]; exact kot) hh10) (hl.next nd10 sk val10)
              | some g9 =>
                refine iteF ?_
                rw [hh] at q9
                refine ⟨_, rfl, x, _, dx9, _, _, rfl, hx9, T.c_Search, T.n_Search_held_by, fsS_hb r d og ot hb, _, rfl, hb, _, rfl, q9, ?_⟩
                refine ⟨24 - (U ++ [t]).length, ?_, g9, U ++ [t], bf4, se8, eg7, et7, _, _, rfl, rfl, bt9, f4, by rw [kg7]; exact kog, f5, by rw [kt7]; exact kot, f1, f2, f3, dsub g9 ((hl.rng g9).mp ⟨t, hh⟩), nd8, nb4, sb4, gl4.go tk hh kd⟩
                rw [List.length_append, List.length_singleton] at U9 ⊢
                omega
end
end GF

/- DSolve -/
set_option Elab.async false
set_option linter.all false
set_option maxRecDepth 100000
set_option maxHeartbeats 4000000
namespace GF
open PySem PySem.Spec PyProof.Rows L2 GR
theorem pt_truthK {X : Cx} {K : PySem.W.Frag} {a : Expr} {ta : TE} (hK : X.K = K) (ha : PE X a ta) (he : ∀ whole, isTrue a X.env whole = (do let v ← whole; standAt a.pos; holding [v] (truthy v))) :
    PT X a (fun σ H Q => ta σ H fun x H' => ∃ k, TruV K x H' k ∧ Q k H') := by
  subst hK
  exact pt_truth ha he
theorem RowsU.but {H H' : Hp} {x C dx r : Addr} {fs : List (Str × V)} {ps : List Str} {ad : Str → Addr} {rw_ : Str → List Str} (h : RowsU H r ps ad rw_) (b : But [x] H H') (hx : H x = some (.ins C dx fs)) : RowsU H' r ps ad rw_ :=
  ⟨b _ _ (fun m => not_ins hx h.dk (fun _ _ _ z => by cases z) (List.mem_singleton.mp m)) h.dk, fun g hg => b.rdx hx (fun _ _ _ z => by cases z) (h.ls g hg)⟩
def spSInit (K : PySem.W.Frag) : Sp := fun vs H Q _ => ∃ (x r d dx : Addr) (ps : List Str) (ad : Str → Addr) (rw_ : Str → List Str) (es : List ((Str × Str) × Int)) (pr : Str → Str → Int), vs = [.ref x, .ref r, .ref d] ∧ H x = some (.ins (He.ga K "Search") dx []) ∧ RowsU H r ps ad rw_ ∧
  H d = some (dP es) ∧ (∀ g t, g ∈ ps → t ∈ rw_ g → gt es (g, t) = some (pr g t)) ∧ PeopleOk ps ∧ RowOk ps rw_ ∧ (∀ g, g ∈ ps → rw_ g ≠ []) ∧
  ∀ H' og ot hb kt eg et, But [x] H H' → H og = none → H ot = none → H hb = none → SrAt K H' x r d og ot hb ps kt ad rw_ es pr [] eg et → Q .non H'
abbrev nSInit : List Str := ["self", "rows", "prices", "giver", "taker"]
theorem scSInit : FnScope nSInit ["self", "rows", "prices"] dSearchInit.scope := ⟨rfl, rfl, rfl, by decide +kernel, rfl, by decide +kernel, by decide +kernel⟩
def spTotal : Sp := fun vs H Q _ => ∃ (d dd : Addr) (ps : List Str) (f : Str → Str) (es : List ((Str × Str) × Int)) (pr : Str → Str → Int), vs = [.ref d, .ref dd] ∧ Rd H d (dP es) ∧ H dd = some (dF ps f) ∧ ps.length ≤ 24 ∧ (∀ g, g ∈ ps → gt es (g, f g) = some (pr g (f g))) ∧
  ∀ H' n, Same H H' → Q (.int n) H'
abbrev nTotal : List Str := ["prices", "drawing", "giver"]
theorem scTotal : FnScope nTotal ["prices", "drawing"] dTotal.scope := ⟨rfl, rfl, rfl, by decide +kernel, rfl, by decide +kernel, by decide +kernel⟩
section
variable {P : Program} {w : World} {K : PySem.W.Frag} {mg : Str → Option Value} {base : Heap}
theorem ok_total (T : Tx K mg) : Ok P w K mg base CX0 1 dTotal ["prices", "drawing"] spTotal := by
  refine Ok.mk0 T _ ixTotal scTotal (fun _ _ _ _ _ _ us hl => match us, hl with | [_, _], _ => rfl) (fun vs H Q E h => ?_) (fun f cdv A outer st H vs Q E hr h => ?_)
  · obtain ⟨d, dd, ps, f, es, pr, rfl, _⟩ := h
    rfl
  · have hu := hu_of hr
    obtain ⟨d, dd, ps, f, es, pr, rfl, hd, hdd, few, al, k⟩ := h
    refine ⟨_, pss_one (ps_ret (pe_callB (cr_sum rfl) (by rfl) T.f_sum (by decide +kernel) (pa_cons (pe_lock (pe_lc (own := [("giver", 2)]) (g := gName 2) (tt := tYes) rfl scTotal.nd (pi_keys (pv 1)) (blkOk_by (N := nTotal) (sc := dTotal.scope) (by decide +kernel))
          (fun _ _ _ _ _ => pg_name (i := 2) scTotal.nd rfl (.inl rfl)) (fun _ _ _ _ _ => pts_nil) (fun _ _ _ _ _ => pe_dget hu (pv 0) (pe_tup (pa_cons (pv 2) (pa_cons (pe_dget hu (pv 1) (pv 2) (fun _ _ => rfl)) pa_nil))) (fun _ _ => rfl)))) pa_nil))), ?_⟩
    refine ⟨dd, _, hdd, trivial, fun od => ?_⟩
    generalize eF : upd H dd (.frz od (dF ps f)) = Hf
    have frz : Hf dd = some (.frz od (dF ps f)) := by rw [← eF]; exact upd_same
    have hdf : Rd Hf d (dP es) := by rw [← eF]; exact (Lq.lock od hdd trivial).rd _ _ trivial hd
    refine ⟨_, rfl, dd, od, rfl, .inl ⟨_, frz, fun D hD => ?_⟩⟩
    have nD : D ≠ dd := fun e => by rw [e, frz] at hD; cases hD
    refine lco_w Wk.keys (fun i H' => Same Hf H' ∧ H' D = some (.lst (((ps.take i).map fun g => pr g (f g)).map V.int))) ⟨Same.new hD, upd_same⟩ (fun i H' _ p => p.1 _ _ frz) ?_ ?_
    · rintro i y H2 H2' hi ⟨s2, d2⟩ ⟨rfl, p, hp, rfl⟩
      obtain ⟨g, hg, rfl⟩ : ∃ g, ps[i]? = some g ∧ p = (g, f g) := by
        rw [List.getElem?_map] at hp
        cases e : ps[i]? with
        | none => rw [e] at hp; cases hp
        | some g => rw [e] at hp; exact ⟨g, rfl, (Option.some.inj hp).symm⟩
      have gin := List.mem_of_getElem? hg
      have q1 := dget_s (l := ps.map fun g => (g, f g)) (h := V.str) (.inr ⟨od, s2 _ _ frz⟩) g
      rw [gt_fn, if_pos gin] at q1
      refine ⟨rfl, yesT ?_⟩
      refine ⟨_, rfl, _, rfl, _, rfl, _, rfl, dd, _, rfl, q1, by show 2 ≤ sizeLine; decide, fun a ha => ?_⟩
      have s3 := Same.new' (o := .tup [.str g, .str (f g)]) s2 ha
      have q2 := dget_t (x := (g, f g)) (b := a) ((Lq.of s3).rd _ _ trivial hdf) upd_same
      rw [al g gin] at q2
      refine ⟨d, _, rfl, q2, _, Same.new ha _ _ d2, ?_, Same.mut s3 hD, ?_⟩
      · rw [List.length_map, List.length_map, List.length_take]
        exact sz1000 (by omega)
      · rw [upd_same, take_snoc hg, List.map_append, List.map_append]
        rfl
    · rintro H2 ⟨s2, d2⟩
      refine ⟨s2 _ _ frz, D, _, rfl, SqL.of (by rw [upd_ne nD]; exact d2), ?_⟩
      exact k _ _ (Same.unlock hdd (by rw [eF]; exact s2))
theorem ok_sinit (T : Tx K mg) : Ok P w K mg base CX0 1 dSearchInit ["self", "rows", "prices"] (spSInit K) := by
  refine Ok.mk0 T _ ixSearchInit scSInit (fun _ _ _ _ _ _ us hl => match us, hl with | [_, _, _], _ => rfl) (fun vs H Q E h => ?_) (fun f cdv A outer st H vs Q E hr h => ?_)
  · obtain ⟨x, r, d, dx, ps, ad, rw_, es, pr, rfl, _⟩ := h
    rfl
  · have hu := hu_of hr
    obtain ⟨x, r, d, dx, ps, ad, rw_, es, pr, rfl, hx, R, hd, al, ok, ro, ne, k⟩ := h
    refine ⟨_, pss_cons (ps_fld (pv 0) (pv 1) rfl)
      (pss_cons (ps_fld (pv 0) (pv 2) rfl)
      (pss_cons (ps_fld (pv 0) (pe_lock (pe_dg (own := [("giver", 3)]) (o := .dK []) (g := gName 3) (tt := tYes) hu rfl scSInit.nd (pi_keys (pv 1)) (blkOk_by (N := nSInit) (sc := dSearchInit.scope) (by decide +kernel))
          (fun _ _ _ _ _ => pg_name (i := 3) scSInit.nd rfl (.inr rfl)) (fun _ _ _ _ _ => pts_nil) (fun _ _ _ _ _ => pv 3)
          (fun _ _ _ _ _ => pe_callB (id := "min") (cr_minK' (K := K) rfl rfl) (by rfl) T.f_min (by decide +kernel) (pa_cons (pe_lc (own := [("taker", 4)]) (g := gName 4) (tt := tYes) rfl scSInit.nd (pi_listK (K := K) rfl (pe_dget hu (pv 1) (pv 3) (fun _ _ => rfl)))
            (blkOk_by (N := nSInit) (sc := { kind := .function, names := [(".0", .local), ("giver", .cell), ("min", .globalImplicit), ("prices", .cell), ("rows", .cell)], isGenerator := false, isCoroutine := false }) (by decide +kernel))
            (fun _ _ _ _ _ => pg_name (i := 4) scSInit.nd rfl (.inl rfl)) (fun _ _ _ _ _ => pts_nil) (fun _ _ _ _ _ => pe_dget hu (pv 2) (pe_tup (pa_cons (pv 3) (pa_cons (pv 4) pa_nil))) (fun _ _ => rfl))) pa_nil)))) rfl)
      (pss_cons (ps_fld (pv 0) (pe_lock (pe_dg2 (own := [("giver", 3), ("taker", 4)]) (vs1 := [4]) (o := .dK []) (g := gName 3) (tt := tYes) (g1 := gName 4) (tt1 := tYes) hu rfl scSInit.nd (pi_keys (pv 1)) (blkOk_by (N := nSInit) (sc := dSearchInit.scope) (by decide +kernel)) (by decide)
          (fun _ _ _ _ _ => pg_name (i := 3) scSInit.nd rfl (.inl rfl)) (fun _ _ _ _ _ => pts_nil) (fun _ _ _ _ _ => pi_listK (K := K) rfl (pe_dget hu (pv 1) (pv 3) (fun _ _ => rfl)))
          (fun _ _ _ _ _ => pg_name (i := 4) scSInit.nd rfl (.inl rfl)) (fun _ _ _ _ _ => pts_nil) (fun _ _ _ _ _ => pv 4) (fun _ _ _ _ _ => pe_int))) rfl)
      (pss_one (ps_fld (pv 0) pe_dnewK rfl))))), ?_⟩
    refine ⟨_, rfl, _, rfl, x, _, dx, [], rfl, hx, T.c_Search, T.n_Search_ahead, by decide, ?_⟩
    refine ⟨_, rfl, _, rfl, x, _, dx, _, rfl, upd_same, T.c_Search, T.n_Search_priced, ?_, ?_⟩
    · have := length_putF "ahead" (.ref r) []
      simp at this
      omega
    have L1 : (putF "priced" (.ref d) (putF "ahead" (.ref r) [])).length ≤ 2 := by
      have h1 := length_putF "ahead" (.ref r) []
      have h2 := length_putF "priced" (.ref d) (putF "ahead" (.ref r) [])
      simp at h1
      omega
    generalize eH1 : upd (upd H x (.ins (He.ga K "Search") dx (putF "ahead" (.ref r) []))) x (.ins (He.ga K "Search") dx (putF "priced" (.ref d) (putF "ahead" (.ref r) []))) = H1
    have b1 : But [x] H H1 := by rw [← eH1]; exact (But.at (by simp)).trans (But.at (by simp))
    have i1 : H1 x = some (.ins (He.ga K "Search") dx (putF "priced" (.ref d) (putF "ahead" (.ref r) []))) := by rw [← eH1]; exact upd_same
    have R1 := R.but b1 hx
    have new1 : ∀ {a : Addr}, H1 a = none → H a = none := fun {a} e => by
      by_cases c : a = x
      · rw [c, i1] at e; cases e
      · rw [← eH1, upd_ne c, upd_ne c] at e; exact e
    have pd : ∀ {H' : Hp}, But [x] H H' → H' d = some (dP es) := fun b => b _ _ (fun m => not_ins hx hd (fun _ _ _ z => by cases z) (List.mem_singleton.mp m)) hd
    clear eH1
    -- of_givers
    refine ⟨r, _, R1.dk, trivial, fun od => ?_⟩
    generalize eF : upd H1 r (.frz od (.dK (mp ks V.ref (ps.map fun g => (g, ad g))))) = Hf
    have frz : Hf r = some (.frz od (.dK (mp ks V.ref (ps.map fun g => (g, ad g))))) := by rw [← eF]; exact upd_same
    have Rf : RowsAt Hf r ps ad rw_ := by rw [← eF]; exact R1.at.lq (Lq.lock od R1.dk trivial)
    have hdf : Rd Hf d (dP es) := by rw [← eF]; exact (Lq.lock od R1.dk trivial).rd _ _ trivial (.inl (pd b1))
    refine ⟨_, rfl, r, od, rfl, .inl ⟨_, frz, fun D hD => ?_⟩⟩
    have hDr : D ≠ r := fun e => by rw [e, frz] at hD; cases hD
    have hD1 : H1 D = none := by rw [← eF, upd_ne hDr] at hD; exact hD
    refine turns_w Wk.keys (fun i H' => ∃ eg, Same Hf H' ∧ H' D = some (dI eg) ∧ keys eg = ps.take i) ⟨[], Same.new hD, upd_same, rfl⟩ (fun i H' _ ⟨_, s, _⟩ => s _ _ frz) ?_ ?_
    · rintro i y H2 H2' hi ⟨eg, s2, d2, k2⟩ ⟨rfl, q, hq, rfl⟩
      obtain ⟨g, hg, rfl⟩ : ∃ g, ps[i]? = some g ∧ q = (g, ad g) := by
        rw [List.getElem?_map] at hq
        cases e : ps[i]? with
        | none => rw [e] at hq; cases hq
        | some g => rw [e] at hq; exact ⟨g, rfl, (Option.some.inj hq).symm⟩
      have gin : g ∈ ps := List.mem_of_getElem? hg
      have Ra := Rf.same s2
      refine ⟨rfl, yesT ?_⟩
      refine ⟨_, rfl, _, rfl, _, rfl, r, _, rfl, Ra.get gin, ad g, rfl, ⟨_, Ra.seq gin⟩, fun D2 hD2 => ?_⟩
      refine lco_w (Wk.list (xs := (rw_ g).map V.str)) (fun j H' => Same H2' H' ∧ H' D2 = some (.lst ((((rw_ g).take j).map (pr g)).map V.int))) ⟨Same.new hD2, upd_same⟩ (fun j H' _ p => (Ra.same p.1).seq gin) ?_ ?_
      · rintro j y H3 H3' hj ⟨s3, d3⟩ ⟨rfl, hy⟩
        obtain ⟨t, ht, rfl⟩ := map_get hy
        have tin := List.mem_of_getElem? ht
        refine ⟨rfl, yesT ?_⟩
        refine ⟨_, rfl, _, rfl, _, rfl, by show 2 ≤ sizeLine; decide, fun a ha => ?_⟩
        have s4 := Same.new' (o := .tup [.str g, .str t]) s3 ha
        have g1 := dget_t (x := (g, t)) (b := a) ((Lq.of (s2.trans s4)).rd _ _ trivial hdf) upd_same
        rw [al g t gin tin] at g1
        refine ⟨d, _, rfl, g1, _, Same.new ha _ _ d3, ?_, Same.mut s4 hD2, ?_⟩
        · rw [List.length_map, List.length_map, List.length_take]
          have := ro.few ok g
          exact sz1000 (by omega)
        · rw [upd_same, take_snoc ht, List.map_append, List.map_append]
          rfl
      · rintro H3 ⟨s3, d3⟩
        rw [List.length_map, List.take_length] at d3
        refine ⟨D2, _, rfl, SqL.of d3, ?_, fun m _ _ => ?_⟩
        · rw [List.length_map]
          exact List.length_pos_iff.mpr (ne g gin)
        · have len : eg.length ≤ 24 := by
            have e := len_of_keys k2
            rw [List.length_take] at e
            have := ok.hi
            omega
          refine ⟨_, dput_s (s3 _ _ d2) g m (sz1000 (by omega)), put eg g m, ?_, upd_same, ?_⟩
          · exact Same.mut (s2.trans s3) hD
          · rw [keys_put, if_neg (by rw [k2]; exact not_mem_take ok.nd hg), k2, take_snoc hg]
    rintro H2 ⟨eg, s2, d2, k2⟩
    rw [List.length_map, List.take_length] at k2
    refine ⟨s2 _ _ frz, ?_⟩
    have sU : Same H1 (upd H2 r (.dK (mp ks V.ref (ps.map fun g => (g, ad g))))) := Same.unlock R1.dk (by rw [eF]; exact s2)
    have d3 : (upd H2 r (.dK (mp ks V.ref (ps.map fun g => (g, ad g))))) D = some (dI eg) := by rw [upd_ne hDr]; exact d2
    generalize upd H2 r (.dK (mp ks V.ref (ps.map fun g => (g, ad g)))) = H3 at sU d3 ⊢
    have nDx : D ≠ x := fun e => by rw [e, i1] at hD1; cases hD1
    refine ⟨_, rfl, x, _, dx, _, rfl, sU _ _ i1, T.c_Search, T.n_Search_of_givers, by omega, ?_⟩
    have L2 := length_putF "of_givers" (.ref D) (putF "priced" (.ref d) (putF "ahead" (.ref r) []))
    generalize eH4 : upd H3 x (.ins (He.ga K "Search") dx (putF "of_givers" (.ref D) (putF "priced" (.ref d) (putF "ahead" (.ref r) [])))) = H4
    have b4 : But [x] H H4 := by rw [← eH4]; exact (b1.trans (But.of sU)).trans (But.at (by simp))
    have i4 : H4 x = some (.ins (He.ga K "Search") dx (putF "of_givers" (.ref D) (putF "priced" (.ref d) (putF "ahead" (.ref r) [])))) := by rw [← eH4]; exact upd_same
    have og4 : H4 D = some (dI eg) := by rw [← eH4, upd_ne nDx]; exact d3
    have new4 : ∀ {a : Addr}, H4 a = none → H1 a = none := fun {a} e => by
      by_cases c : a = x
      · rw [c, i4] at e; cases e
      · rw [← eH4, upd_ne c] at e; exact sU.free e
    have R4 := R.but b4 hx
    clear eH4 frz Rf hdf eF
    -- of_takers
    refine ⟨r, _, R4.dk, trivial, fun od2 => ?_⟩
    generalize eF : upd H4 r (.frz od2 (.dK (mp ks V.ref (ps.map fun g => (g, ad g))))) = Hf
    have frz : Hf r = some (.frz od2 (.dK (mp ks V.ref (ps.map fun g => (g, ad g))))) := by rw [← eF]; exact upd_same
    have Rf : RowsAt Hf r ps ad rw_ := by rw [← eF]; exact R4.at.lq (Lq.lock od2 R4.dk trivial)
    refine ⟨_, rfl, r, od2, rfl, .inl ⟨_, frz, fun D2 hD2 => ?_⟩⟩
    have hD2r : D2 ≠ r := fun e => by rw [e, frz] at hD2; cases hD2
    have hD24 : H4 D2 = none := by rw [← eF, upd_ne hD2r] at hD2; exact hD2
    have tlen : ∀ {et : List (Str × Int)}, (keys et).Nodup → (∀ t, t ∈ keys et → t ∈ ps) → et.length ≤ 24 := fun n s => by
      have e1 := Nat.le_trans (len_le_of_sub n s) ok.hi
      unfold keys at e1
      rw [List.length_map] at e1
      exact e1
    refine turns_w Wk.keys (fun i H' => ∃ et, Same Hf H' ∧ H' D2 = some (dI et) ∧ (keys et).Nodup ∧ (∀ t, t ∈ keys et → t ∈ ps) ∧ ∀ g t, g ∈ ps.take i → t ∈ rw_ g → t ∈ keys et) ⟨[], Same.new hD2, upd_same, List.nodup_nil, by simp [keys], by simp⟩ (fun i H' _ ⟨_, s, _⟩ => s _ _ frz) ?_ ?_
    · rintro i y H5 H5' hi ⟨et, s5, d5, n5, p5, c5⟩ ⟨rfl, q, hq, rfl⟩
      obtain ⟨g, hg, rfl⟩ : ∃ g, ps[i]? = some g ∧ q = (g, ad g) := by
        rw [List.getElem?_map] at hq
        cases e : ps[i]? with
        | none => rw [e] at hq; cases hq
        | some g => rw [e] at hq; exact ⟨g, rfl, (Option.some.inj hq).symm⟩
      have gin : g ∈ ps := List.mem_of_getElem? hg
      have Ra := Rf.same s5
      refine ⟨rfl, yesT ?_⟩
      refine ⟨_, rfl, _, rfl, r, _, rfl, Ra.get gin, ad g, rfl, ⟨_, Ra.seq gin⟩, ?_⟩
      refine turns_w (Wk.list (xs := (rw_ g).map V.str)) (fun j H' => ∃ et, Same Hf H' ∧ H' D2 = some (dI et) ∧ (keys et).Nodup ∧ (∀ t, t ∈ keys et → t ∈ ps) ∧ (∀ g t, g ∈ ps.take i → t ∈ rw_ g → t ∈ keys et) ∧ ∀ t, t ∈ (rw_ g).take j → t ∈ keys et) ⟨et, s5, d5, n5, p5, c5, by simp⟩ (fun j H' _ ⟨_, s, _⟩ => (Rf.same s).seq gin) ?_ ?_
      · rintro j y H6 H6' hj ⟨et6, s6, d6, n6, p6, c6, e6⟩ ⟨rfl, hy⟩
        obtain ⟨t, ht, rfl⟩ := map_get hy
        have tp := ro.sub g t (List.mem_of_getElem? ht)
        refine ⟨rfl, yesT ?_⟩
        refine ⟨_, rfl, _, dput_s d6 t 0 (sz1000 (by have := tlen n6 p6; omega)), put et6 t 0, Same.mut s6 hD2, upd_same, nd_put _ n6, fun u hu => ?_, fun g' u hg' hu => mem_keys_put.mpr (.inr (c6 g' u hg' hu)), fun u hu => ?_⟩
        · rcases mem_keys_put.mp hu with z | z
          · rw [z]; exact tp
          · exact p6 u z
        · rw [take_snoc ht] at hu
          rcases List.mem_append.mp hu with z | z
          · exact mem_keys_put.mpr (.inr (e6 u z))
          · exact mem_keys_put.mpr (.inl (List.mem_singleton.mp z))
      · rintro H6 ⟨et6, s6, d6, n6, p6, c6, e6⟩
        rw [List.length_map, List.take_length] at e6
        refine ⟨et6, s6, d6, n6, p6, fun g' u hg' hu => ?_⟩
        rw [take_snoc hg] at hg'
        rcases List.mem_append.mp hg' with z | z
        · exact c6 g' u z hu
        · rw [List.mem_singleton.mp z] at hu
          exact e6 u hu
    rintro H5 ⟨et, s5, d5, n5, p5, c5⟩
    rw [List.length_map, List.take_length] at c5
    refine ⟨s5 _ _ frz, ?_⟩
    have sU2 : Same H4 (upd H5 r (.dK (mp ks V.ref (ps.map fun g => (g, ad g))))) := Same.unlock R4.dk (by rw [eF]; exact s5)
    have d6 : (upd H5 r (.dK (mp ks V.ref (ps.map fun g => (g, ad g))))) D2 = some (dI et) := by rw [upd_ne hD2r]; exact d5
    generalize upd H5 r (.dK (mp ks V.ref (ps.map fun g => (g, ad g)))) = H6 at sU2 d6 ⊢
    have nD2x : D2 ≠ x := fun e => by rw [e, i4] at hD24; cases hD24
    refine ⟨_, rfl, x, _, dx, _, rfl, sU2 _ _ i4, T.c_Search, T.n_Search_of_takers, by omega, ?_⟩
    have L3 := length_putF "of_takers" (.ref D2) (putF "of_givers" (.ref D) (putF "priced" (.ref d) (putF "ahead" (.ref r) [])))
    generalize eH7 : upd H6 x (.ins (He.ga K "Search") dx (putF "of_takers" (.ref D2) (putF "of_givers" (.ref D) (putF "priced" (.ref d) (putF "ahead" (.ref r) []))))) = H7
    have b7 : But [x] H H7 := by rw [← eH7]; exact (b4.trans (But.of sU2)).trans (But.at (by simp))
    have i7 : H7 x = some (.ins (He.ga K "Search") dx (putF "of_takers" (.ref D2) (putF "of_givers" (.ref D) (putF "priced" (.ref d) (putF "ahead" (.ref r) []))))) := by rw [← eH7]; exact upd_same
    have og7 : H7 D = some (dI eg) := by rw [← eH7, upd_ne nDx]; exact sU2 _ _ og4
    have ot7 : H7 D2 = some (dI et) := by rw [← eH7, upd_ne nD2x]; exact d6
    have new7 : ∀ {a : Addr}, H7 a = none → H4 a = none := fun {a} e => by
      by_cases c : a = x
      · rw [c, i7] at e; cases e
      · rw [← eH7, upd_ne c] at e; exact sU2.free e
    clear eH7
    intro hb hhb
    have nhx : hb ≠ x := fun e => by rw [e, i7] at hhb; cases hhb
    have i8 : (upd H7 hb (.dK [])) x = some (.ins (He.ga K "Search") dx (putF "of_takers" (.ref D2) (putF "of_givers" (.ref D) (putF "priced" (.ref d) (putF "ahead" (.ref r) []))))) := Same.new hhb _ _ i7
    refine ⟨_, rfl, x, _, dx, _, rfl, i8, T.c_Search, T.n_Search_held_by, by omega, ?_⟩
    have b8 : But [x] H (upd (upd H7 hb (.dK [])) x (.ins (He.ga K "Search") dx (fsSearch r d D D2 hb))) := (b7.trans (But.of (Same.new hhb))).trans (But.at (by simp))
    have c1 : (upd (upd H7 hb (.dK [])) x (.ins (He.ga K "Search") dx (fsSearch r d D D2 hb))) D = some (dI eg) := by rw [upd_ne nDx]; exact Same.new hhb _ _ og7
    have c2 : (upd (upd H7 hb (.dK [])) x (.ins (He.ga K "Search") dx (fsSearch r d D D2 hb))) D2 = some (dI et) := by rw [upd_ne nD2x]; exact Same.new hhb _ _ ot7
    have c3 : (upd (upd H7 hb (.dK [])) x (.ins (He.ga K "Search") dx (fsSearch r d D D2 hb))) hb = some (dS []) := by rw [upd_ne nhx, upd_same]; rfl
    have n4 : D ≠ D2 := ne_of_none og4 hD24
    have n5' : D ≠ hb := ne_of_none og7 hhb
    have n6' : D2 ≠ hb := ne_of_none ot7 hhb
    refine k _ D D2 hb (keys et) eg et b8 (new1 hD1) (new1 (new4 hD24)) (new1 (new4 (new7 hhb))) ⟨⟨dx, upd_same⟩, (R.but b8 hx).at, .inl (pd b8), al, c1, k2, c2, rfl, fun g t hg ht => c5 g t hg ht, ?_, c3, ?_, ?_, ?_, n4, n5', n6'⟩
    · have e := tlen n5 p5
      have := len_of_keys (l := et) rfl
      omega
    · exact ne_of_none R.dk (new1 hD1)
    · exact ne_of_none R.dk (new1 (new4 hD24))
    · exact ne_of_none R.dk (new1 (new4 (new7 hhb)))
end
end GF

/- DCheap -/
set_option Elab.async false
set_option linter.all false
set_option maxRecDepth 100000
set_option maxHeartbeats 4000000
namespace GF
open PySem PySem.Spec PyProof.Rows L2 GR
theorem SrAt.lock {K : PySem.W.Frag} {H : Hp} {x r d og ot hb : Addr} {ps kt : List Str} {ad : Str → Addr} {rw_ : Str → List Str} {es : List ((Str × Str) × Int)} {pr : Str → Str → Int} {held : List (Str × Str)} {eg et : List (Str × Int)} {l : List (Key × V)}
    (h : SrAt K H x r d og ot hb ps kt ad rw_ es pr held eg et) (od : Obj) (hr : H r = some (.dK l)) : SrAt K (upd H r (.frz od (.dK l))) x r d og ot hb ps kt ad rw_ es pr held eg et := by
  have L := Lq.lock od hr trivial
  obtain ⟨dx, hx⟩ := h.ins
  exact ⟨⟨dx, L.fx _ _ trivial hx⟩, h.rows.lq L, L.rd _ _ trivial h.prd, h.al, by rw [upd_ne (Ne.symm h.n1)]; exact h.og_, h.keg, by rw [upd_ne (Ne.symm h.n2)]; exact h.ot_, h.ket, h.cov, h.few, by rw [upd_ne (Ne.symm h.n3)]; exact h.hb_, h.n1, h.n2, h.n3, h.n4, h.n5, h.n6⟩
def spSolved (K : PySem.W.Frag) : Sp := fun vs H Q _ => ∃ (r d : Addr) (ps : List Str) (ad : Str → Addr) (rw_ : Str → List Str) (es : List ((Str × Str) × Int)) (pr : Str → Str → Int), vs = [.ref r, .ref d] ∧ RowsU H r ps ad rw_ ∧ H d = some (dP es) ∧
  (∀ g t, g ∈ ps → t ∈ rw_ g → gt es (g, t) = some (pr g t)) ∧ PeopleOk ps ∧ RowOk ps rw_ ∧ (∃ f, PM ps rw_ f) ∧ ∀ H' a dd o1 o2 f, Same H H' → H' a = some (.tup [.ref dd, .ref o1, .ref o2]) → H' dd = some (dF ps f) → PM ps rw_ f → Q (.ref a) H'
abbrev nSolved : List Str := ["rows", "prices", "search", "giver", "takers", "taker"]
theorem scSolved : FnScope nSolved ["rows", "prices"] dSolved.scope := ⟨rfl, rfl, rfl, by decide +kernel, rfl, by decide +kernel, by decide +kernel⟩
def spSBook (K : PySem.W.Frag) : Sp := fun vs H Q _ => ∃ (x pa p d : Addr) (ps : List Str) (cl : List (Str × Str)) (rw_ : Str → List Str) (es : List ((Str × Str) × Int)) (pr : Str → Str → Int), vs = [.ref x, .ref d] ∧ BookAt K H x pa p ps cl rw_ ∧ PeopleOk ps ∧ RowOk ps rw_ ∧
  H d = some (dP es) ∧ PrOk ps cl rw_ es pr ∧ (∃ f, PM ps rw_ f) ∧ ∀ H' a dd o1 o2 f, Same H H' → H' a = some (.tup [.ref dd, .ref o1, .ref o2]) → H' dd = some (dF ps f) → PM ps rw_ f → Q (.ref a) H'
abbrev nSBook : List Str := ["book", "prices", "told"]
theorem scSBook : FnScope nSBook ["book", "prices"] dSolvedBook.scope := ⟨rfl, rfl, rfl, by decide +kernel, rfl, by decide +kernel, by decide +kernel⟩
def spCheapest (K : PySem.W.Frag) : Sp := fun vs H Q _ => ∃ (x pa p d : Addr) (ps : List Str) (cl : List (Str × Str)) (rw_ : Str → List Str) (es : List ((Str × Str) × Int)) (pr : Str → Str → Int), vs = [.ref x, .ref d] ∧ BookAt K H x pa p ps cl rw_ ∧ PeopleOk ps ∧ RowOk ps rw_ ∧
  H d = some (dP es) ∧ PrOk ps cl rw_ es pr ∧ (∃ f, PM ps rw_ f) ∧ ∀ H' a dd n f, Same H H' → H' a = some (.tup [.int n, .ref dd]) → H' dd = some (dF ps f) → PM ps rw_ f → Q (.ref a) H'
theorem scCheapest : FnScope nSBook ["book", "prices"] dCheapest.scope := ⟨rfl, rfl, rfl, by decide +kernel, rfl, by decide +kernel, by decide +kernel⟩
section
variable {P : Program} {w : World} {K : PySem.W.Frag} {mg : Str → Option Value} {base : Heap}
theorem ok_solved (T : Tx K mg) : Ok P w K mg base CX0 4 dSolved ["rows", "prices"] (spSolved K) := by
  obtain ⟨fdI, FI, bI⟩ := (ok_sinit (P := P) (w := w) (base := base) T).ex
  obtain ⟨fdG, FG, bG⟩ := (ok_grow (P := P) (w := w) (base := base) T).ex
  refine Ok.mk0 T _ ixSolved scSolved (fun _ _ _ _ _ _ us hl => match us, hl with | [_, _], _ => rfl) (fun vs H Q E h => ?_) (fun f cdv A outer st H vs Q E hr h => ?_)
  · obtain ⟨r, d, ps, ad, rw_, es, pr, rfl, _⟩ := h
    rfl
  · have hu := hu_of hr
    obtain ⟨r, d, ps, ad, rw_, es, pr, rfl, R, hd, al, ok, ro, full, k⟩ := h
    refine ⟨_, pss_cons (ps_lock (ps_if (pt_truth (pe_lc (own := [("giver", 3)]) (g := gName 3) rfl scSolved.nd (pi_keys (pv 0)) (blkOk_by (N := nSolved) (sc := dSolved.scope) (by decide +kernel))
          (fun _ _ _ _ _ => pg_name (i := 3) scSolved.nd rfl (.inl rfl)) (fun _ _ _ _ _ => pts_one (pt_not (pt_truthK (K := K) rfl (pe_dget hu (pv 0) (pv 3) (fun _ _ => rfl)) (fun _ => rfl)))) (fun _ _ _ _ _ => pv 3)) (fun _ => rfl)) pss_never pss_nil))
      (pss_cons (ps_set (i := 2) scSolved.nd rfl (.inl rfl) (pe_make T.k_Search FI (hr.mono (by decide)) (by rfl) T.g_Search bI .nil pass0 (pa_cons (pv 0) (pa_cons (pv 1) pa_nil))))
      (pss_cons (ps_lock (ps_for PassesOwn.never rfl (pi_keys (pv 0)) (pg_name (i := 3) scSolved.nd rfl (.inl rfl))
        (pss_one (ps_if (pt_not (pt_val (pe_meth (pv 2) T.c_Search T.m_Search_grow FG (hr.mono (by decide)) bG .nil pass0 (pa_cons (pv 3) pa_nil)))) pss_never pss_nil))))
      (pss_cons (ps_lock (ps_set (i := 4) scSolved.nd rfl (.inr rfl) (pe_dg (own := [("taker", 5), ("giver", 3)]) (o := .dK []) (tt := tYes) hu rfl scSolved.nd (pi_items (pe_fld (pv 2) rfl)) (blkOk_by (N := nSolved) (sc := dSolved.scope) (by decide +kernel))
          (fun _ _ _ _ _ => pg_tupK (K := K) (n := 2) rfl rfl (pgs_cons (pg_name (i := 5) scSolved.nd rfl (.inl rfl)) (pgs_cons (pg_name (i := 3) scSolved.nd rfl (.inl rfl)) pgs_nil))) (fun _ _ _ _ _ => pts_nil) (fun _ _ _ _ _ => pv 3) (fun _ _ _ _ _ => pv 5))))
      (pss_one (ps_ret (pe_tup (pa_cons (pe_lock (pe_dg (own := [("giver", 3)]) (o := .dK []) (g := gName 3) (tt := tYes) hu rfl scSolved.nd (pi_keys (pv 0)) (blkOk_by (N := nSolved) (sc := dSolved.scope) (by decide +kernel))
          (fun _ _ _ _ _ => pg_name (i := 3) scSolved.nd rfl (.inl rfl)) (fun _ _ _ _ _ => pts_nil) (fun _ _ _ _ _ => pv 3) (fun _ _ _ _ _ => pe_dget hu (pv 4) (pv 3) (fun _ _ => rfl))))
          (pa_cons (pe_fld (pv 2) rfl) (pa_cons (pe_fld (pv 2) rfl) pa_nil))))))))), ?_⟩
    have rne : ∀ g, g ∈ ps → rw_ g ≠ [] := fun g hg e => by
      obtain ⟨f, pm⟩ := full
      have := pm.ok g hg
      rw [e] at this
      simp at this
    refine ⟨r, _, R.dk, trivial, fun od => ?_⟩
    have frz0 : (upd H r (.frz od (.dK (mp ks V.ref (ps.map fun g => (g, ad g)))))) r = some (.frz od (.dK (mp ks V.ref (ps.map fun g => (g, ad g))))) := upd_same
    have Rf0 := R.at.lq (Lq.lock od R.dk trivial)
    refine ⟨_, rfl, r, od, rfl, .inl ⟨_, frz0, fun D hD => ?_⟩⟩
    have nDr0 : D ≠ r := fun e => by rw [e, frz0] at hD; cases hD
    refine lco_w Wk.keys (fun i H' => Same (upd H r (.frz od (.dK (mp ks V.ref (ps.map fun g => (g, ad g)))))) H' ∧ H' D = some (.lst [])) ⟨Same.new hD, upd_same⟩ (fun i H' _ p => p.1 _ _ frz0) ?_ ?_
    · rintro i y H2 H2' hi ⟨s2, d2⟩ ⟨rfl, q, hq, rfl⟩
      obtain ⟨g, hg, rfl⟩ : ∃ g, ps[i]? = some g ∧ q = (g, ad g) := by
        rw [List.getElem?_map] at hq
        cases e : ps[i]? with
        | none => rw [e] at hq; cases hq
        | some g => rw [e] at hq; exact ⟨g, rfl, (Option.some.inj hq).symm⟩
      have gin : g ∈ ps := List.mem_of_getElem? hg
      have Ra := Rf0.same s2
      refine ⟨rfl, _, rfl, _, rfl, r, _, rfl, Ra.get gin, _, .inl ⟨_, Ra.seq gin, rfl⟩, ?_⟩
      have e : ((rw_ g).map V.str).isEmpty = false := by
        cases q : rw_ g with
        | nil => exact absurd q (rne g gin)
        | cons a l => rfl
      rw [e]
      exact iteF ⟨s2, d2⟩
    rintro H1 ⟨s1, d1⟩
    refine ⟨false, .inl ⟨[], SqL.of d1, rfl⟩, iteF ⟨s1 _ _ frz0, ?_⟩⟩
    have sA : Same H (upd H1 r (.dK (mp ks V.ref (ps.map fun g => (g, ad g))))) := Same.unlock R.dk s1
    generalize upd H1 r (.dK (mp ks V.ref (ps.map fun g => (g, ad g)))) = H2 at sA ⊢
    clear s1 d1 frz0 Rf0 hD nDr0
    -- the search is made
    refine ⟨_, rfl, _, rfl, fun x dx hxn hdn nexd => ?_⟩
    have sB : Same H2 (upd (upd H2 dx (.own x)) x (.ins (He.ga K "Search") dx [])) := Same.new' (Same.new hdn) (by rw [upd_ne (Ne.symm nexd)]; exact hxn)
    have ixs : (upd (upd H2 dx (.own x)) x (.ins (He.ga K "Search") dx [])) x = some (.ins (He.ga K "Search") dx []) := upd_same
    generalize upd (upd H2 dx (.own x)) x (.ins (He.ga K "Search") dx []) = H3 at sB ixs ⊢
    refine ⟨x, r, d, dx, ps, ad, rw_, es, pr, rfl, ixs, (R.same sA).same sB, sB _ _ (sA _ _ hd), al, ok, ro, rne, fun H4 og ot hb kt eg et b4 nog not_ nhb A4 => ⟨rfl, ?_⟩⟩
    have sC : Same H2 H4 := ((But.of sB).trans b4).same fun a ha => by rw [List.mem_singleton.mp ha]; exact hxn
    have sD := sA.trans sC
    have nog0 := sA.free (sB.free nog)
    have not0 := sA.free (sB.free not_)
    have nhb0 := sA.free (sB.free nhb)
    have R4 := R.same sD
    -- the givers grow
    refine ⟨r, _, R4.dk, trivial, fun od2 => ?_⟩
    generalize eF : upd H4 r (.frz od2 (.dK (mp ks V.ref (ps.map fun g => (g, ad g))))) = Hf
    have frz : Hf r = some (.frz od2 (.dK (mp ks V.ref (ps.map fun g => (g, ad g))))) := by rw [← eF]; exact upd_same
    have Af : SrAt K Hf x r d og ot hb ps kt ad rw_ es pr [] eg et := by rw [← eF]; exact A4.lock od2 R4.dk
    have nr : r ∉ [og, ot, hb] := by simp [A4.n1, A4.n2, A4.n3]
    refine ⟨_, rfl, r, od2, rfl, .inl ⟨_, frz, for_w Wk.keys (fun i σ H' => ∃ v held eg' et', σ = [some (.ref r), some (.ref d), some (.ref x), v, none, none] ∧ But [og, ot, hb] Hf H' ∧ SrAt K H' x r d og ot hb ps kt ad rw_ es pr held eg' et' ∧ Held (ps.take i) rw_ held)
      ⟨none, [], eg, et, rfl, But.refl _ _, Af, by rw [List.take_zero]; exact Held.nil⟩ (fun i σ H' _ ⟨v, held, _, _, _, b, _⟩ => b _ _ nr frz) ?_ ?_⟩⟩
    · rintro i y σ H5 H5' hi ⟨v, held, eg', et', rfl, b5, A5, hl⟩ ⟨rfl, q, hq, rfl⟩
      obtain ⟨g, hg, rfl⟩ : ∃ g, ps[i]? = some g ∧ q = (g, ad g) := by
        rw [List.getElem?_map] at hq
        cases e : ps[i]? with
        | none => rw [e] at hq; cases hq
        | some g => rw [e] at hq; exact ⟨g, rfl, (Option.some.inj hq).symm⟩
      have gin : g ∈ ps := List.mem_of_getElem? hg
      obtain ⟨dx5, hx5⟩ := A5.ins
      refine ⟨_, rfl, x, dx5, _, rfl, hx5, fsS_no r d og ot hb (by decide +kernel) (by decide +kernel) (by decide +kernel) (by decide +kernel) (by decide +kernel), _, rfl, ?_⟩
      refine ⟨x, r, d, og, ot, hb, ps, kt, ad, rw_, es, pr, held, eg', et', ps.take i, g, rfl, A5, ok, ro, hl, gin, not_mem_take ok.nd hg, fun z hz => List.mem_of_mem_take hz, full, fun H6 held6 eg6 et6 b6 A6 hl6 => ⟨_, rfl, ?_⟩⟩
      exact ⟨_, held6, eg6, et6, rfl, b5.trans b6, A6, by rw [take_snoc hg]; exact hl6⟩
    rintro σ H5 ⟨v, held, eg', et', rfl, b5, A5, hl⟩
    rw [List.length_map, List.take_length] at hl
    refine ⟨b5 _ _ nr frz, ?_⟩
    have sE : Same H (upd H5 r (.dK (mp ks V.ref (ps.map fun g => (g, ad g))))) := fun b o e => by
      by_cases c : b = r
      · rw [c, upd_same, ← R.dk, ← c]; exact e
      · rw [upd_ne c]
        refine b5 b o (fun m => ?_) (by rw [← eF, upd_ne c]; exact sD _ _ e)
        simp only [List.mem_cons, List.mem_nil_iff, or_false] at m
        rcases m with q | q | q
        · rw [q, nog0] at e; cases e
        · rw [q, not0] at e; cases e
        · rw [q, nhb0] at e; cases e
    have hx6 : ∃ dx6, (upd H5 r (.dK (mp ks V.ref (ps.map fun g => (g, ad g))))) x = some (.ins (He.ga K "Search") dx6 (fsSearch r d og ot hb)) := by
      obtain ⟨dx5, hx5⟩ := A5.ins
      refine ⟨dx5, ?_⟩
      rw [upd_ne (Ne.symm (not_ins hx5 (b5 _ _ nr frz) fun _ _ _ z => by cases z))]
      exact hx5
    have hh6 : (upd H5 r (.dK (mp ks V.ref (ps.map fun g => (g, ad g))))) hb = some (dS held) := by rw [upd_ne (Ne.symm A5.n3)]; exact A5.hb_
    clear b4 A4 Af b5 A5 eF frz sC sD
    generalize upd H5 r (.dK (mp ks V.ref (ps.map fun g => (g, ad g)))) = H6 at sE hx6 hh6 ⊢
    obtain ⟨dx6, hx6⟩ := hx6
    -- takers
    refine ⟨hb, _, hh6, trivial, fun od3 => ?_⟩
    generalize eF : upd H6 hb (.frz od3 (dS held)) = Hf
    have frz : Hf hb = some (.frz od3 (dS held)) := by rw [← eF]; exact upd_same
    have nxh : x ≠ hb := Ne.symm (not_ins hx6 hh6 fun _ _ _ z => by cases z)
    have hxf : Hf x = some (.ins (He.ga K "Search") dx6 (fsSearch r d og ot hb)) := by rw [← eF, upd_ne nxh]; exact hx6
    refine ⟨_, rfl, x, _, dx6, _, _, rfl, hxf, T.c_Search, T.n_Search_held_by, fsS_hb r d og ot hb, hb, od3, _, rfl, frz, fun D hD => ?_⟩
    have few : held.length ≤ 24 := keys_few ok hl.nd fun a y e => ro.sub y a (hl.val a y e)
    have nDh : D ≠ hb := fun e => by rw [e, frz] at hD; cases hD
    have hD6 : H6 D = none := by rw [← eF, upd_ne nDh] at hD; exact hD
    refine turns_w Wk.items (fun i H' => Same Hf H' ∧ H' D = some (dS (invOf (held.take i)))) ⟨Same.new hD, upd_same⟩ (fun i H' _ p => p.1 _ _ frz) ?_ ?_
    · rintro i y H7 H7' hi ⟨s2, d2⟩ ⟨p, a, hp, rfl, ha, rfl⟩
      refine ⟨a, _, rfl, SqT.of upd_same, rfl, _, _, rfl, _, _, rfl, rfl, rfl, yesT ?_⟩
      have nDa : D ≠ a := ne_of_none d2 ha
      refine ⟨_, rfl, _, rfl, _, dput_s (l := invOf (held.take i)) (by rw [upd_ne nDa]; exact d2) p.2 p.1 ?_, ?_, ?_⟩
      · have := invOf_len (held.take i)
        rw [List.length_take] at this
        exact sz1000 (by omega)
      · exact Same.mut (Same.new' s2 ha) hD
      · rw [upd_same, take_snoc hp, invOf_snoc]
    rintro H7 ⟨s7, d7⟩
    rw [List.take_length] at d7
    refine ⟨s7 _ _ frz, ?_⟩
    have sG : Same H6 (upd H7 hb (dS held)) := Same.unlock hh6 (by rw [eF]; exact s7)
    have d8 : (upd H7 hb (dS held)) D = some (dS (invOf held)) := by rw [upd_ne nDh]; exact d7
    clear eF frz hxf
    generalize upd H7 hb (dS held) = H8 at sG d8 ⊢
    have s8 := sE.trans sG
    have R8 := R.same s8
    -- the drawing
    refine ⟨r, _, R8.dk, trivial, fun od4 => ?_⟩
    generalize eF : upd H8 r (.frz od4 (.dK (mp ks V.ref (ps.map fun g => (g, ad g))))) = Hf
    have frz : Hf r = some (.frz od4 (.dK (mp ks V.ref (ps.map fun g => (g, ad g))))) := by rw [← eF]; exact upd_same
    have nDr : D ≠ r := Ne.symm (ne_of_none (sE _ _ R.dk) hD6)
    refine ⟨_, rfl, r, od4, rfl, .inl ⟨_, frz, fun D2 hD2 => ?_⟩⟩
    have d2r : D2 ≠ r := fun e => by rw [e, frz] at hD2; cases hD2
    have hD28 : H8 D2 = none := by rw [← eF, upd_ne d2r] at hD2; exact hD2
    have dDf : Hf D = some (dS (invOf held)) := by rw [← eF, upd_ne nDr]; exact d8
    have inv : ∀ x t, gt (invOf held) x = some t ↔ gt held t = some x := invOf_get held hl.nd hl.inj
    refine turns_w Wk.keys (fun i H' => Same Hf H' ∧ H' D2 = some (dS ((ps.take i).map fun g => (g, (gt (invOf held) g).getD "")))) ⟨Same.new hD2, by rw [upd_same]; rfl⟩ (fun i H' _ p => p.1 _ _ frz) ?_ ?_
    · rintro i y H9 H9' hi ⟨s4, d4⟩ ⟨rfl, p, hp, rfl⟩
      obtain ⟨g, hg, rfl⟩ : ∃ g, ps[i]? = some g ∧ p = (g, ad g) := by
        rw [List.getElem?_map] at hp
        cases e : ps[i]? with
        | none => rw [e] at hp; cases hp
        | some g => rw [e] at hp; exact ⟨g, rfl, (Option.some.inj hp).symm⟩
      have gin : g ∈ ps := List.mem_of_getElem? hg
      obtain ⟨t, et⟩ := (hl.rng g).mpr gin
      have gi : gt (invOf held) g = some t := (inv g t).mpr et
      have q := dget_s (l := invOf held) (h := V.str) (.inl (s4 _ _ dDf)) g
      rw [gi] at q
      refine ⟨rfl, yesT ?_⟩
      refine ⟨_, rfl, _, rfl, _, rfl, D, _, rfl, q, _, dput_s d4 g t ?_, Same.mut s4 hD2, ?_⟩
      · rw [List.length_map, List.length_take]
        have := ok.hi
        exact sz1000 (by omega)
      · rw [upd_same]
        have e := put_fn (f := fun g => (gt (invOf held) g).getD "") ok.nd hg
        rw [gi] at e
        rw [← e]
        rfl
    rintro H9 ⟨s4, d4⟩
    rw [List.length_map, List.take_length] at d4
    refine ⟨s4 _ _ frz, ?_⟩
    have s5 : Same H8 (upd H9 r (.dK (mp ks V.ref (ps.map fun g => (g, ad g))))) := Same.unlock R8.dk (by rw [eF]; exact s4)
    have d5 : (upd H9 r (.dK (mp ks V.ref (ps.map fun g => (g, ad g))))) D2 = some (dF ps fun g => (gt (invOf held) g).getD "") := by rw [upd_ne d2r]; exact d4
    generalize upd H9 r (.dK (mp ks V.ref (ps.map fun g => (g, ad g)))) = H10 at s5 d5 ⊢
    have hx10 := s5 _ _ (sG _ _ hx6)
    refine ⟨_, rfl, x, _, dx6, _, _, rfl, hx10, T.c_Search, T.n_Search_of_givers, fsS_og r d og ot hb, _, rfl, x, _, dx6, _, _, rfl, hx10, T.c_Search, T.n_Search_of_takers, fsS_ot r d og ot hb, by show 3 ≤ sizeLine; decide, fun a ha => ?_⟩
    refine k _ a D2 og ot (fun g => (gt (invOf held) g).getD "") (Same.new' (s8.trans s5) ha) upd_same (Same.new ha _ _ d5) (hl.pm _ fun g hg => ?_)
    obtain ⟨t, et⟩ := (hl.rng g).mpr hg
    rw [(inv g t).mpr et]
    exact et
theorem ok_sbook (T : Tx K mg) : Ok P w K mg base CX0 6 dSolvedBook ["book", "prices"] (spSBook K) := by
  have S1 := ok_checkp (P := P) (w := w) (base := base) T
  have S2 := ok_solved (P := P) (w := w) (base := base) T
  obtain ⟨fdR, FR, bR⟩ := (ok_brows (P := P) (w := w) (base := base) T).ex
  refine Ok.mk0 T _ ixSolvedBook scSBook (fun _ _ _ _ _ _ us hl => match us, hl with | [_, _], _ => rfl) (fun vs H Q E h => ?_) (fun f cdv A outer st H vs Q E hr h => ?_)
  · obtain ⟨x, pa, p, d, ps, cl, rw_, es, pr, rfl, _⟩ := h
    rfl
  · obtain ⟨x, pa, p, d, ps, cl, rw_, es, pr, rfl, B, ok, ro, hd, po, full, k⟩ := h
    refine ⟨_, pss_cons (ps_expr (pc S1 hr (by decide) T.g_check_prices pass0 (pa_cons (pv 0) (pa_cons (pv 1) pa_nil))))
      (pss_cons (ps_set (i := 2) scSBook.nd rfl (.inl rfl) (pc S2 hr (by decide) T.g_solved pass0 (pa_cons (pe_meth0 (pv 0) T.c_Book T.m_Book_rows FR (hr.mono (by decide)) bR .nil pass0) (pa_cons (pv 1) pa_nil))))
      (pss_cons (ps_if (pt_cmpR op_isN (pv 2) pe_non (nomark _)) pss_never pss_nil)
      (pss_one (ps_ret (pv 2))))), ?_⟩
    obtain ⟨⟨lk, r0, dx, ad0, hx, R0⟩, hP⟩ := id B
    refine ⟨_, rfl, _, rfl, x, pa, p, d, ps, cl, rw_, es, pr, rfl, B, ok, ro, hd, po, fun H1 s1 => ?_⟩
    refine ⟨_, rfl, x, dx, _, rfl, s1 _ _ hx, fsBook_no pa lk r0 (by decide +kernel) (by decide +kernel) (by decide +kernel), x, pa, p, ps, cl, rw_, rfl, B.same s1, ok, fun H2 r ad s2 _ R => ?_⟩
    have s12 := s1.trans s2
    refine ⟨_, rfl, r, d, ps, ad, rw_, es, pr, rfl, R, s12 _ _ hd, po.all, ok, ro, full, fun H3 a dd o1 o2 f s3 ha hdd pm => ?_⟩
    exact ⟨_, rfl, rfl, _, rfl, iteF ⟨_, rfl, k H3 a dd o1 o2 f (s12.trans s3) ha hdd pm⟩⟩
theorem ok_cheapest (T : Tx K mg) : Ok P w K mg base CX0 7 dCheapest ["book", "prices"] (spCheapest K) := by
  have S1 := ok_sbook (P := P) (w := w) (base := base) T
  have S2 := ok_total (P := P) (w := w) (base := base) T
  refine Ok.mk0 T _ ixCheapest scCheapest (fun _ _ _ _ _ _ us hl => match us, hl with | [_, _], _ => rfl) (fun vs H Q E h => ?_) (fun f cdv A outer st H vs Q E hr h => ?_)
  · obtain ⟨x, pa, p, d, ps, cl, rw_, es, pr, rfl, _⟩ := h
    rfl
  · obtain ⟨x, pa, p, d, ps, cl, rw_, es, pr, rfl, B, ok, ro, hd, po, full, k⟩ := h
    refine ⟨_, pss_cons (ps_set (i := 2) scSBook.nd rfl (.inl rfl) (pc S1 hr (by decide) T.g_solved_book pass0 (pa_cons (pv 0) (pa_cons (pv 1) pa_nil))))
      (pss_one (ps_ret (pe_tup (pa_cons (pc S2 hr (by decide) T.g_total pass0 (pa_cons (pv 1) (pa_cons (pe_ix ix_tup (pv 2) pe_int (fun _ _ => rfl)) pa_nil))) (pa_cons (pe_ix ix_tup (pv 2) pe_int (fun _ _ => rfl)) pa_nil))))), ?_⟩
    refine ⟨_, rfl, _, rfl, x, pa, p, d, ps, cl, rw_, es, pr, rfl, B, ok, ro, hd, po, full, fun H1 a dd o1 o2 f s1 ha hdd pm => ?_⟩
    refine ⟨_, rfl, _, rfl, a, _, 0, _, rfl, rfl, SqT.of ha, rfl, d, dd, ps, f, es, pr, rfl, .inl (s1 _ _ hd), hdd, ok.hi, fun g hg => po.all g (f g) hg (pm.ok g hg), fun H2 n s2 => ?_⟩
    refine ⟨_, rfl, a, _, 0, _, rfl, rfl, SqT.of (s2 _ _ ha), rfl, by show 2 ≤ sizeLine; decide, fun b hb => ?_⟩
    exact k _ b dd n f (Same.new' (s1.trans s2) hb) upd_same (Same.new hb _ _ (s2 _ _ hdd)) pm
end
end GF

/- LDraw -/
set_option Elab.async false
set_option linter.all false
set_option maxRecDepth 100000
set_option maxHeartbeats 4000000
namespace GF
open PySem PySem.Spec PyProof.Rows L2 GR
def spCell (K : PySem.W.Frag) : Sp := fun vs H Q _ => ∃ (a : Addr) (ns : List Int) (k : Nat), vs = [.ref a, .int (k : Int)] ∧ SqL K H a (ns.map V.int) ∧ ns.length ≤ 63 ∧ k ≤ 1000 ∧ ∀ n, Q (.int n) H
abbrev nCell : List Str := ["_law_script", "_law_k"]
theorem scCell : FnScope nCell ["_law_script", "_law_k"] dLawCell.scope := ⟨rfl, rfl, rfl, by decide +kernel, rfl, by decide +kernel, by decide +kernel⟩
def DrawsOk (ds : List Int) : Prop := ∀ x, x ∈ ds → 0 ≤ x ∧ x < 5040
def spDraws : Sp := fun vs H Q _ => ∃ (c : Int) (n : Nat), vs = [.int c, .int (n : Int)] ∧ n ≤ 5000 ∧ ∀ H' l ds, Same H H' → H l = none → H' l = some (.lst (ds.map V.int)) → ds.length = n → DrawsOk ds → Q (.ref l) H'
abbrev nDraws : List Str := ["_law_cell_here", "_law_amount", "_law_great", "_law_draws_here", "_law_k", "_law_number"]
theorem scDraws : FnScope nDraws ["_law_cell_here", "_law_amount"] dLawDraws.scope := ⟨rfl, rfl, rfl, by decide +kernel, rfl, by decide +kernel, by decide +kernel⟩
section
variable {P : Program} {w : World} {K : PySem.W.Frag} {mg : Str → Option Value} {base : Heap}
theorem ok_cell (T : Tx K mg) : Ok P w K mg base CX0 1 dLawCell ["_law_script", "_law_k"] (spCell K) := by
  refine Ok.mk0 T _ ixLawCell scCell (fun _ _ _ _ _ _ us hl => match us, hl with | [_, _], _ => rfl) (fun vs H Q E h => ?_) (fun f cdv A outer st H vs Q E hr h => ?_)
  · obtain ⟨a, ns, k, rfl, _⟩ := h
    rfl
  · obtain ⟨a, ns, k, rfl, ha, l63, kl, kk⟩ := h
    refine ⟨_, pss_cons (ps_if (pt_cmpR op_lt (pv 1) (pe_callB call_len (by rfl) T.f_len (by decide +kernel) (pa_cons (pv 0) pa_nil)) (nomark _)) (pss_one (ps_ret (pe_callTy call_int1 (by rfl) T.f_int (by decide +kernel) (pa_cons (pe_ix ix_list (pv 0) (pv 1) (fun _ _ => rfl)) pa_nil)))) pss_nil)
      (pss_one (ps_ret (pe_op op_add (pe_op op_mul pe_int (pv 1)) (pe_callB call_len (by rfl) T.f_len (by decide +kernel) (pa_cons (pv 0) pa_nil))))), ?_⟩
    refine ⟨_, rfl, _, rfl, _, ns.length, rfl, .inl ⟨_, ha, by rw [List.length_map]⟩, _, _, rfl, rfl, _, rfl, ?_⟩
    by_cases c : (k : Int) < (ns.length : Int)
    · rw [decide_eq_true c]
      have hk : k < ns.length := by omega
      refine iteT ⟨_, rfl, _, rfl, a, _, _, _, rfl, rfl, ha, atI_nat (by rw [List.getElem?_map, List.getElem?_eq_getElem hk]; rfl), .inl ⟨_, rfl, kk _⟩⟩
    · rw [decide_eq_false c]
      refine iteF ⟨_, rfl, _, _, rfl, rfl, .inl ⟨by decide, by decide⟩, _, rfl, _, ns.length, rfl, .inl ⟨_, ha, by rw [List.length_map]⟩, _, _, rfl, rfl, kk _⟩
theorem ok_draws (T : Tx K mg) : Ok P w K mg base CX0 1 dLawDraws ["_law_cell_here", "_law_amount"] spDraws := by
  refine Ok.mk0 T _ ixLawDraws scDraws (fun _ _ _ _ _ _ us hl => match us, hl with | [_, _], _ => rfl) (fun vs H Q E h => ?_) (fun f cdv A outer st H vs Q E hr h => ?_)
  · obtain ⟨c, n, rfl, _⟩ := h
    rfl
  · obtain ⟨c, n, rfl, hn, k⟩ := h
    refine ⟨_, pss_cons (ps_set (i := 0) scDraws.nd rfl (.inl rfl) (pe_callTy call_int1 (by rfl) T.f_int (by decide +kernel) (pa_cons (pv 0) pa_nil)))
      (pss_cons (ps_set (i := 2) scDraws.nd rfl (.inl rfl) (pe_cmpR op_ge (pv 0) (pe_op op_pow pe_int pe_int) (nomark _)))
      (pss_cons (ps_set (i := 3) scDraws.nd rfl (.inl rfl) (pe_lst pa_nil))
      (pss_cons (ps_for PassesOwn.never rfl (pi_range1 (by rfl) T.f_range (pa_cons (pv 1) pa_nil)) (pg_name (i := 4) scDraws.nd rfl (.inl rfl))
        (pss_one (ps_if (pt_truth (pv 2) (fun _ => rfl))
          (pss_cons (ps_expr (pe_bm PySem.F.plainAttrs_list PySem.F.slot_list_append PySem.F.type_list_append mt_append (pv 3) (pa_cons (pe_op op_mod (pe_callTy call_int1 (by rfl) T.f_int (by decide +kernel) (pa_cons (pv 0) pa_nil)) pe_int) pa_nil)))
          (pss_one (ps_set (i := 0) scDraws.nd rfl (.inl rfl) (pe_op op_fdiv (pv 0) pe_int))))
          (pss_cons (ps_set (i := 5) scDraws.nd rfl (.inl rfl) (pe_op op_mod (pe_callTy call_int1 (by rfl) T.f_int (by decide +kernel) (pa_cons (pe_op op_mul (pe_op op_add (pe_op op_add (pv 0) (pe_op op_mul pe_int (pv 4))) pe_int) pe_int) pa_nil)) pe_int))
          (pss_cons (ps_set (i := 5) scDraws.nd rfl (.inl rfl) (pe_op op_mod (pe_callTy call_int1 (by rfl) T.f_int (by decide +kernel) (pa_cons (pe_op op_mul (pv 5) (pe_op op_add (pe_op op_fdiv (pv 5) pe_int) pe_int)) pa_nil)) pe_int))
          (pss_cons (ps_set (i := 5) scDraws.nd rfl (.inl rfl) (pe_op op_mod (pe_callTy call_int1 (by rfl) T.f_int (by decide +kernel) (pa_cons (pe_op op_mul (pv 5) (pe_op op_add (pe_op op_fdiv (pv 5) pe_int) pe_int)) pa_nil)) pe_int))
          (pss_one (ps_expr (pe_bm PySem.F.plainAttrs_list PySem.F.slot_list_append PySem.F.type_list_append mt_append (pv 3) (pa_cons (pe_op op_mod (pe_callTy call_int1 (by rfl) T.f_int (by decide +kernel) (pa_cons (pe_op op_fdiv (pv 5) pe_int) pa_nil)) pe_int) pa_nil))))))))))
      (pss_one (ps_ret (pv 3)))))), ?_⟩
    refine ⟨_, rfl, .inl ⟨_, rfl, ?_⟩⟩
    refine ⟨_, rfl, _, _, rfl, rfl, ⟨by decide, by decide, by decide⟩, _, _, rfl, rfl, ?_⟩
    obtain ⟨gr, hgr⟩ : ∃ gr, decide ((10 : Int) ^ (18 : Int).toNat ≤ c) = gr := ⟨_, rfl⟩
    refine ⟨by decide, fun D hD => ?_⟩
    refine ⟨_, rfl, (n : Int), rfl, by omega, by omega, ?_⟩
    have rg : ((n : Int)).toNat = n := Int.toNat_natCast n
    rw [rg]
    refine for_w (Wk.range (lo := 0) (n := n)) (fun i σ H' => ∃ (c : Int) (v5 v4 : Option V) (ds : List Int), σ = [some (.int c), some (.int (n : Int)), some (.bl gr), some (.ref D), v4, v5] ∧ Same H H' ∧ H' D = some (.lst (ds.map V.int)) ∧ ds.length = i ∧ DrawsOk ds) ⟨c, none, none, [], (by rw [← hgr] <;> rfl), Same.new hD, upd_same, rfl, fun x hx => absurd hx (by simp)⟩ (fun _ _ _ _ _ => trivial) ?_ ?_
    · rintro i y σ H1 H1' hi ⟨c, v5, v4, ds, rfl, s1, d1, l1, o1⟩ ⟨rfl, rfl⟩
      have app : ∀ x : Int, 0 ≤ x ∧ x < 5040 → (ds.map V.int).length < sizeLine ∧ Same H (upd H1' D (.lst (ds.map V.int ++ [V.int x]))) ∧ (upd H1' D (.lst (ds.map V.int ++ [V.int x]))) D = some (.lst ((ds ++ [x]).map V.int)) ∧ (ds ++ [x]).length = i + 1 ∧ DrawsOk (ds ++ [x]) := fun x hx => by
        refine ⟨by rw [List.length_map]; exact sz1000 (by omega), Same.mut s1 hD, by rw [upd_same, List.map_append]; rfl, by rw [List.length_append, l1]; rfl, fun y hy => ?_⟩
        rcases List.mem_append.mp hy with q | q
        · exact o1 y q
        · rw [List.mem_singleton.mp q]; exact hx
      refine ⟨_, rfl, gr, rfl, ?_⟩
      cases gr with
      | true =>
        refine iteT ?_
        obtain ⟨a1, a2, a3, a4, a5⟩ := app (c % 5040) ⟨Int.emod_nonneg _ (by decide), Int.emod_lt_of_pos _ (by decide)⟩
        refine ⟨_, rfl, .inl ⟨rfl, _, SqL.of d1⟩, _, rfl, .inl ⟨_, rfl, _, _, rfl, rfl, by show (0 : Int) < 5040; decide, D, _, _, rfl, rfl, d1, a1, ?_⟩⟩
        exact ⟨_, rfl, _, _, rfl, rfl, ⟨by decide, by decide⟩, _, _, _, ds ++ [c % 5040], rfl, a2, a3, a4, a5⟩
      | false =>
        refine iteF ?_
        have p1 : (0 : Int) < 2147483647 := by decide
        have p2 : (0 : Int) < 2147483399 := by decide
        refine ⟨_, rfl, _, rfl, _, _, rfl, rfl, .inl ⟨by decide, by decide⟩, _, _, rfl, rfl, _, _, rfl, rfl, _, _, rfl, rfl, .inr ⟨by decide, by decide⟩, .inl ⟨_, rfl, _, _, rfl, rfl, p1, ?_⟩⟩
        have b1 : ∀ x : Int, 0 ≤ x % 2147483647 ∧ x % 2147483647 < 2147483647 := fun x => ⟨Int.emod_nonneg _ (by decide), Int.emod_lt_of_pos _ p1⟩
        dsimp only
        generalize hx1 : (c + 7919 * (0 + (i : Int)) + 1) * 48271 % 2147483647 = x1
        have c1 : 0 ≤ x1 ∧ x1 < 2147483647 := by rw [← hx1]; exact b1 _
        refine ⟨_, rfl, _, rfl, _, _, rfl, rfl, ⟨by decide, by decide⟩, _, _, rfl, rfl, _, _, rfl, rfl, .inl ⟨by omega, by omega⟩, .inl ⟨_, rfl, _, _, rfl, rfl, p1, ?_⟩⟩
        dsimp only
        generalize hx2 : x1 * (x1 / 1009 + 69621) % 2147483647 = x2
        have c2 : 0 ≤ x2 ∧ x2 < 2147483647 := by rw [← hx2]; exact b1 _
        refine ⟨_, rfl, _, rfl, _, _, rfl, rfl, ⟨by decide, by decide⟩, _, _, rfl, rfl, _, _, rfl, rfl, .inl ⟨by omega, by omega⟩, .inl ⟨_, rfl, _, _, rfl, rfl, p2, ?_⟩⟩
        dsimp only
        generalize x2 * (x2 / 2003 + 40692) % 2147483399 = x3
        obtain ⟨a1, a2, a3, a4, a5⟩ := app (x3 / 16 % 5040) ⟨Int.emod_nonneg _ (by decide), Int.emod_lt_of_pos _ (by decide)⟩
        refine ⟨_, rfl, .inl ⟨rfl, _, SqL.of d1⟩, _, rfl, _, _, rfl, rfl, ⟨by decide, by decide⟩, .inl ⟨_, rfl, _, _, rfl, rfl, by show (0 : Int) < 5040; decide, D, _, _, rfl, rfl, d1, a1, ?_⟩⟩
        exact ⟨_, _, _, ds ++ [x3 / 16 % 5040], rfl, a2, a3, a4, a5⟩
    · rintro σ H1 ⟨c, v5, v4, ds, rfl, s1, d1, l1, o1⟩
      exact ⟨_, rfl, k H1 D ds s1 hD d1 l1 o1⟩
end
end GF

/- LPeople -/
set_option Elab.async false
set_option linter.all false
set_option maxRecDepth 100000
set_option maxHeartbeats 4000000
namespace GF
open PySem PySem.Spec PyProof.Rows L2 GR
theorem letter_at : ∀ i : Nat, i < 26 → letters.cps.toList[i]? = some (97 + i) := by decide +kernel
theorem letter_in {i : Nat} (h : i < 26) : 97 + i ∈ letters.cps.toList := List.mem_of_getElem? (letter_at i h)
abbrev zs : List Nat := [122, 122, 122, 122, 122, 122, 122]
theorem zs_is : (("zzzzzzz" : Str)).cps.toList = zs := by decide +kernel
theorem snoc_cps (a : Str) (c : Nat) : (a ++ (⟨#[c]⟩ : Str)).cps.toList = a.cps.toList ++ [c] := by
  show (a.cps ++ #[c]).toList = _
  simp
theorem len_cps (a : Str) : a.length = a.cps.toList.length := by
  show a.cps.size = _
  simp
/-- a drawn name, or the k-th that stands for a repeated one -/
def NameK (k : Nat) (x : Str) : Prop := x.cps.toList[5]? ≠ some 122 ∨ ∃ j, j < k ∧ j < 26 ∧ x.cps.toList = zs ++ [97 + j]
/-- part of a drawn name -/
structure Part (j : Nat) (x : Str) (m : Int) : Prop where
  len : x.length = j
  ls : ∀ c, c ∈ x.cps.toList → c ∈ letters.cps.toList
  five : 5 < j → x.cps.toList[5]? = some 97
  lo : 0 ≤ m
  hi : m < 26 ^ (5 - j)
theorem Part.next {j : Nat} {x : Str} {m : Int} (h : Part j x m) : ∃ c, atI letters.cps.toList (m % 26) = some c ∧ Part (j + 1) (x ++ (⟨#[c]⟩ : Str)) (m / 26) := by
  have l0 : 0 ≤ m % 26 := Int.emod_nonneg _ (by decide)
  have l1 : m % 26 < 26 := Int.emod_lt_of_pos _ (by decide)
  obtain ⟨i, hi⟩ : ∃ i : Nat, m % 26 = (i : Int) := ⟨(m % 26).toNat, by omega⟩
  have li : i < 26 := by omega
  have hl := h.len
  refine ⟨97 + i, by rw [hi]; exact atI_nat (letter_at i li), ?_, fun c hc => ?_, fun h5 => ?_, Int.ediv_nonneg h.lo (by decide), ?_⟩
  · rw [len_cps, snoc_cps, List.length_append, ← len_cps, hl]
    rfl
  · rw [snoc_cps] at hc
    rcases List.mem_append.mp hc with q | q
    · exact h.ls c q
    · rw [List.mem_singleton.mp q]; exact letter_in li
  · rw [len_cps] at hl
    rw [snoc_cps]
    by_cases c : j = 5
    · subst c
      have m0 : m = 0 := by
        have h1 := h.hi
        have h2 := h.lo
        have : (26 : Int) ^ (5 - 5) = 1 := by decide
        omega
      have i0 : i = 0 := by
        rw [m0] at hi
        have : (0 : Int) % 26 = 0 := by decide
        omega
      rw [List.getElem?_append_right (by omega), hl, i0]
      rfl
    · rw [List.getElem?_append_left (by omega)]
      exact h.five (by omega)
  · have h1 := h.hi
    by_cases c : j < 5
    · have e : (26 : Int) ^ (5 - j) = 26 * 26 ^ (5 - (j + 1)) := by
        have : 5 - j = (5 - (j + 1)) + 1 := by omega
        rw [this, Int.pow_succ, Int.mul_comm]
      rw [e] at h1
      exact Int.ediv_lt_of_lt_mul (by decide) (by rw [Int.mul_comm]; exact h1)
    · have e1 : 5 - j = 0 := by omega
      have e2 : 5 - (j + 1) = 0 := by omega
      rw [e1] at h1
      rw [e2]
      have h2 := h.lo
      have : (26 : Int) ^ 0 = 1 := by decide
      rw [this] at h1 ⊢
      have : m = 0 := by omega
      rw [this]
      decide
theorem Part.name {j k : Nat} {x : Str} {m : Int} (h : Part j x m) (lo : 1 ≤ j) (hi : j ≤ 8) : NameOk x ∧ NameK k x := by
  refine ⟨⟨by rw [h.len]; exact lo, by rw [h.len]; exact hi, h.ls⟩, .inl fun e => ?_⟩
  by_cases c : 5 < j
  · rw [h.five c] at e
    cases e
  · have hl := h.len
    rw [len_cps] at hl
    rw [List.getElem?_eq_none (by omega)] at e
    cases e
theorem zname {k : Nat} (h : k < 26) : NameOk (("zzzzzzz" : Str) ++ (⟨#[97 + k]⟩ : Str)) ∧ NameK (k + 1) (("zzzzzzz" : Str) ++ (⟨#[97 + k]⟩ : Str)) ∧ ∀ x, NameK k x → x ≠ ("zzzzzzz" : Str) ++ (⟨#[97 + k]⟩ : Str) := by
  have e : (("zzzzzzz" : Str) ++ (⟨#[97 + k]⟩ : Str)).cps.toList = zs ++ [97 + k] := by rw [snoc_cps, zs_is]
  refine ⟨⟨by rw [len_cps, e]; simp, by rw [len_cps, e]; simp, fun c hc => ?_⟩, .inr ⟨k, by omega, h, e⟩, fun x hx n => ?_⟩
  · rw [e] at hc
    rcases List.mem_append.mp hc with q | q
    · have : c = 122 := by
        simp at q
        exact q
      rw [this]
      exact letter_in (i := 25) (by decide)
    · rw [List.mem_singleton.mp q]; exact letter_in h
  · rw [n] at hx
    rcases hx with q | ⟨j, hj, _, q⟩
    · rw [e] at q
      exact q rfl
    · rw [e] at q
      have := List.append_cancel_left q
      simp at this
      omega
theorem NameK.mono {k : Nat} {x : Str} (h : NameK k x) : NameK (k + 1) x := h.imp id fun ⟨j, a, b, c⟩ => ⟨j, by omega, b, c⟩
def spPeople : Sp := fun vs H Q _ => ∃ (c : Int) (n : Nat), vs = [.int c, .int (n : Int)] ∧ 2 ≤ n ∧ n ≤ 24 ∧ ∀ H' l ps, Same H H' → H l = none → H' l = some (.lst (ps.map V.str)) → PeopleOk ps → Q (.ref l) H'
abbrev nPeople : List Str := ["_law_cell_here", "_law_amount", "_law_letters", "_law_draws_here", "_law_people_here", "_law_k", "_law_number", "_law_size", "_law_name", "_law_j"]
theorem scPeople : FnScope nPeople ["_law_cell_here", "_law_amount"] dLawPeople.scope := ⟨rfl, rfl, rfl, by decide +kernel, rfl, by decide +kernel, by decide +kernel⟩
section
variable {P : Program} {w : World} {K : PySem.W.Frag} {mg : Str → Option Value} {base : Heap}
theorem ok_people (T : Tx K mg) : Ok P w K mg base CX0 2 dLawPeople ["_law_cell_here", "_law_amount"] spPeople := by
  have S := ok_draws (P := P) (w := w) (base := base) T
  refine Ok.mk0 T _ ixLawPeople scPeople (fun _ _ _ _ _ _ us hl => match us, hl with | [_, _], _ => rfl) (fun vs H Q E h => ?_) (fun f cdv A outer st H vs Q E hr h => ?_)
  · obtain ⟨c, n, rfl, _⟩ := h
    rfl
  · obtain ⟨c, n, rfl, n2, n24, k⟩ := h
    refine ⟨_, pss_cons (ps_set (i := 2) scPeople.nd rfl (.inl rfl) pe_str)
      (pss_cons (ps_set (i := 3) scPeople.nd rfl (.inl rfl) (pc S hr (by decide) T.g__law_draws pass0 (pa_cons (pv 0) (pa_cons (pe_op op_mul pe_int (pv 1)) pa_nil))))
      (pss_cons (ps_set (i := 4) scPeople.nd rfl (.inl rfl) (pe_lst pa_nil))
      (pss_cons (ps_for PassesOwn.never rfl (pi_range1 (by rfl) T.f_range (pa_cons (pv 1) pa_nil)) (pg_name (i := 5) scPeople.nd rfl (.inl rfl))
        (pss_cons (ps_set (i := 6) scPeople.nd rfl (.inl rfl) (pe_op op_add (pe_op op_mul (pe_ix ix_list (pv 3) (pe_op op_mul pe_int (pv 5)) (fun _ _ => rfl)) pe_int) (pe_ix ix_list (pv 3) (pe_op op_add (pe_op op_mul pe_int (pv 5)) pe_int) (fun _ _ => rfl))))
        (pss_cons (ps_set (i := 7) scPeople.nd rfl (.inl rfl) (pe_op op_add pe_int (pe_op op_mod (pe_callTy call_int1 (by rfl) T.f_int (by decide +kernel) (pa_cons (pv 6) pa_nil)) pe_int)))
        (pss_cons (ps_set (i := 6) scPeople.nd rfl (.inl rfl) (pe_op op_fdiv (pv 6) pe_int))
        (pss_cons (ps_set (i := 8) scPeople.nd rfl (.inl rfl) pe_str)
        (pss_cons (ps_for PassesOwn.never rfl (pi_range1 (by rfl) T.f_range (pa_cons (pv 7) pa_nil)) (pg_name (i := 9) scPeople.nd rfl (.inl rfl))
          (pss_cons (ps_set (i := 8) scPeople.nd rfl (.inl rfl) (pe_op op_add_str (pv 8) (pe_ix ix_str (pv 2) (pe_op op_mod (pe_callTy call_int1 (by rfl) T.f_int (by decide +kernel) (pa_cons (pv 6) pa_nil)) pe_int) (fun _ _ => rfl))))
          (pss_one (ps_set (i := 6) scPeople.nd rfl (.inl rfl) (pe_op op_fdiv (pv 6) pe_int)))))
        (pss_cons (ps_if (pt_cmpR op_in_seq (pv 8) (pv 4) rfl) (pss_one (ps_set (i := 8) scPeople.nd rfl (.inl rfl) (pe_op op_add_str pe_str (pe_ix ix_str (pv 2) (pv 5) (fun _ _ => rfl))))) pss_nil)
        (pss_one (ps_expr (pe_bm PySem.F.plainAttrs_list PySem.F.slot_list_append PySem.F.type_list_append mt_append (pv 4) (pa_cons (pv 8) pa_nil)))))))))))
      (pss_one (ps_ret (pv 4)))))), ?_⟩
    have h2n : (2 : Int) * (n : Int) = ((2 * n : Nat) : Int) := by omega
    refine ⟨_, rfl, _, rfl, _, _, rfl, rfl, .inl ⟨by decide, by decide⟩, c, 2 * n, by show [V.int c, V.int (2 * (n : Int))] = _; rw [h2n], by omega, fun H1 l ds s1 _ hl len dok => ?_⟩
    refine ⟨by decide, fun D hD => ?_⟩
    have s2 := Same.new' (o := .lst []) s1 hD
    have hl2 : (upd H1 D (.lst [])) l = some (.lst (ds.map V.int)) := Same.new hD _ _ hl
    have hD0 := s1.free hD
    have eD : (upd H1 D (.lst [])) D = some (.lst []) := upd_same
    generalize upd H1 D (.lst []) = H2 at s2 hl2 eD ⊢
    refine ⟨_, rfl, (n : Int), rfl, by omega, by omega, ?_⟩
    have rg : ((n : Int)).toNat = n := Int.toNat_natCast n
    rw [rg]
    have lnD : l ≠ D := fun e => by rw [e, hD] at hl; cases hl
    refine for_w (Wk.range (lo := 0) (n := n)) (fun i σ H' => ∃ (v5 v6 v7 v8 v9 : Option V) (ps : List Str), σ = [some (.int c), some (.int (n : Int)), some (.str letters), some (.ref l), some (.ref D), v5, v6, v7, v8, v9] ∧ Same H H' ∧ H' l = some (.lst (ds.map V.int)) ∧ H' D = some (.lst (ps.map V.str)) ∧ ps.length = i ∧ ps.Nodup ∧ ∀ x, x ∈ ps → NameOk x ∧ NameK i x)
      ⟨none, none, none, none, none, [], rfl, s2, hl2, eD, rfl, List.nodup_nil, by simp⟩ (fun _ _ _ _ _ => trivial) ?_ ?_
    · rintro i y σ H3 H3' hi ⟨v5, v6, v7, v8, v9, ps, rfl, s3, l3, d3, len3, nd3, ok3⟩ ⟨rfl, rfl⟩
      have z0 : (0 : Int) + (i : Int) = ((i : Nat) : Int) := by omega
      rw [z0]
      have i1 : 2 * i < ds.length := by omega
      have i2 : 2 * i + 1 < ds.length := by omega
      have e1 : (2 : Int) * (i : Int) = ((2 * i : Nat) : Int) := by omega
      have e2 : (2 : Int) * (i : Int) + 1 = ((2 * i + 1 : Nat) : Int) := by omega
      have b1 := dok _ (List.getElem_mem i1)
      have b2 := dok _ (List.getElem_mem i2)
      refine ⟨_, rfl, _, rfl, _, _, rfl, rfl, .inl ⟨by decide, by decide⟩, l, _, _, _, rfl, rfl, SqL.of l3, by rw [e1]; exact atI_nat (by rw [List.getElem?_map, List.getElem?_eq_getElem i1]; rfl), _, _, rfl, rfl, .inr ⟨by decide, by decide⟩, ?_⟩
      refine ⟨_, rfl, _, rfl, _, _, rfl, rfl, .inl ⟨by decide, by decide⟩, _, _, rfl, rfl, l, _, _, _, rfl, rfl, SqL.of l3, by rw [e2]; exact atI_nat (by rw [List.getElem?_map, List.getElem?_eq_getElem i2]; rfl), _, _, rfl, rfl, ?_⟩
      have hb : 0 ≤ ds[2 * i] * 5040 + ds[2 * i + 1] ∧ ds[2 * i] * 5040 + ds[2 * i + 1] < 25406640 := by omega
      dsimp only
      generalize ds[2 * i] * 5040 + ds[2 * i + 1] = num at hb ⊢
      have p8 : (0 : Int) < 8 := by decide
      have p26 : (0 : Int) < 26 := by decide
      refine ⟨_, rfl, .inl ⟨_, rfl, _, _, rfl, rfl, p8, _, _, rfl, rfl, ?_⟩⟩
      refine ⟨_, rfl, _, _, rfl, rfl, ⟨by decide, by decide⟩, ?_⟩
      dsimp only
      obtain ⟨sz, hsz⟩ : ∃ sz : Nat, 1 + num % 8 = (sz : Int) := ⟨(1 + num % 8).toNat, by omega⟩
      have sz1 : 1 ≤ sz ∧ sz ≤ 8 := by omega
      rw [hsz]
      have hm0 : 0 ≤ num / 8 ∧ num / 8 < 11881376 := by omega
      generalize num / 8 = m0 at hm0 ⊢
      refine ⟨_, rfl, (sz : Int), rfl, by omega, by omega, ?_⟩
      have rg2 : ((sz : Int)).toNat = sz := Int.toNat_natCast sz
      rw [rg2]
      have part0 : Part 0 ("" : Str) m0 := ⟨rfl, fun c hc => by
        have : ("" : Str).cps.toList = [] := by decide +kernel
        rw [this] at hc
        simp at hc, fun h => absurd h (by decide), hm0.1, by
        have : (26 : Int) ^ (5 - 0) = 11881376 := by decide
        rw [this]
        exact hm0.2⟩
      refine for_w (Wk.range (lo := 0) (n := sz)) (fun j σ H' => H' = H3' ∧ ∃ (v9 : Option V) (x : Str) (m : Int), σ = [some (.int c), some (.int (n : Int)), some (.str letters), some (.ref l), some (.ref D), some (.int (i : Nat)), some (.int m), some (.int (sz : Int)), some (.str x), v9] ∧ Part j x m)
        ⟨rfl, _, _, _, rfl, part0⟩ (fun _ _ _ _ _ => trivial) ?_ ?_
      · rintro j y σ H4 H4' hj ⟨rfl, v9, x, m, rfl, pt⟩ ⟨rfl, rfl⟩
        obtain ⟨q, hq, pn⟩ := pt.next
        refine ⟨_, rfl, _, rfl, _, rfl, .inl ⟨_, rfl, _, _, rfl, rfl, p26, letters, _, q, rfl, rfl, by decide +kernel, hq, _, _, rfl, rfl, ?_, ?_⟩⟩
        · have e1 := pt.len
          have e2 : (⟨#[q]⟩ : Str).length = 1 := rfl
          rw [e1, e2]
          exact sz1000' (by omega)
        · exact ⟨_, rfl, _, _, rfl, rfl, ⟨by decide, by decide⟩, rfl, _, _, _, rfl, pn⟩
      · rintro σ H4 ⟨rfl, v9, x, m, rfl, pt⟩
        obtain ⟨nx, kx⟩ := pt.name (k := i) sz1.1 sz1.2
        have i26 : i < 26 := by omega
        have app : ∀ z : Str, (ps.map V.str).length < sizeLine ∧ Same H (upd H4 D (.lst (ps.map V.str ++ [V.str z]))) ∧ (upd H4 D (.lst (ps.map V.str ++ [V.str z]))) l = some (.lst (ds.map V.int)) ∧ (upd H4 D (.lst (ps.map V.str ++ [V.str z]))) D = some (.lst ((ps ++ [z]).map V.str)) ∧ (ps ++ [z]).length = i + 1 := fun z =>
          ⟨by rw [List.length_map]; exact sz1000 (by omega), Same.mut s3 hD0, by rw [upd_ne lnD]; exact l3, by rw [upd_same, List.map_append]; rfl, by rw [List.length_append, len3]; rfl⟩
        have all : ∀ z : Str, NameOk z → NameK (i + 1) z → ∀ x, x ∈ ps ++ [z] → NameOk x ∧ NameK (i + 1) x := fun z h1 h2 x hx => by
          rcases List.mem_append.mp hx with q | q
          · exact ⟨(ok3 x q).1, (ok3 x q).2.mono⟩
          · rw [List.mem_singleton.mp q]; exact ⟨h1, h2⟩
        refine ⟨_, rfl, _, rfl, in_strs (.inl (SqL.of d3)) ⟨_, rfl, ?_⟩⟩
        by_cases xin : x ∈ ps
        · rw [decide_eq_true xin]
          refine iteT ?_
          obtain ⟨z1, z2, z3⟩ := zname i26
          refine ⟨_, rfl, _, rfl, letters, _, 97 + i, rfl, rfl, by decide +kernel, atI_nat (letter_at i i26), _, _, rfl, rfl, by rw [show (⟨#[97 + i]⟩ : Str).length = 1 from rfl]; exact sz1000' (by decide), ?_⟩
          obtain ⟨a1, a2, a3, a4, a5⟩ := app (("zzzzzzz" : Str) ++ (⟨#[97 + i]⟩ : Str))
          refine ⟨_, rfl, .inl ⟨rfl, _, SqL.of d3⟩, _, rfl, D, _, _, rfl, rfl, d3, a1, ?_⟩
          exact ⟨_, _, _, _, _, _, rfl, a2, a3, a4, a5, GR.nd_snoc nd3 (fun m => z3 _ (ok3 _ m).2 rfl), all _ z1 z2⟩
        · rw [decide_eq_false xin]
          refine iteF ?_
          obtain ⟨a1, a2, a3, a4, a5⟩ := app x
          refine ⟨_, rfl, .inl ⟨rfl, _, SqL.of d3⟩, _, rfl, D, _, _, rfl, rfl, d3, a1, ?_⟩
          exact ⟨_, _, _, _, _, _, rfl, a2, a3, a4, a5, GR.nd_snoc nd3 xin, all _ nx kx.mono⟩
    · rintro σ H3 ⟨v5, v6, v7, v8, v9, ps, rfl, s3, l3, d3, len3, nd3, ok3⟩
      refine ⟨_, rfl, k H3 D ps s3 hD0 d3 ⟨by omega, by omega, nd3, fun x hx => (ok3 x hx).1⟩⟩
end
end GF

/- LBar -/
set_option Elab.async false
set_option linter.all false
set_option maxRecDepth 100000
set_option maxHeartbeats 4000000
namespace GF
open PySem PySem.Spec PyProof.Rows L2 GR
theorem len_go {K : PySem.W.Frag} {H : Hp} {p : Addr} {ps : List Str} (h : SqL K H p (ps.map V.str)) : LenV K (.ref p) H ps.length := .inl ⟨_, h, (List.length_map _).symm⟩
theorem atI_strs {ps : List Str} {k : Nat} (h : k < ps.length) : atI (ps.map V.str) (k : Int) = some (.str ps[k]) := atI_nat (by rw [List.getElem?_map, List.getElem?_eq_getElem h]; rfl)
theorem atI_ints {ds : List Int} {k : Nat} (h : k < ds.length) : atI (ds.map V.int) (k : Int) = some (.int ds[k]) := atI_nat (by rw [List.getElem?_map, List.getElem?_eq_getElem h]; rfl)
theorem PairsAt.rev {H : Hp} {qs : List (Addr × (Str × Str))} (h : PairsAt H qs) : PairsAt H qs.reverse := fun q m => h q (List.mem_reverse.mp m)
def spBarred (K : PySem.W.Frag) : Sp := fun vs H Q _ => ∃ (c : Int) (p : Addr) (ps : List Str), vs = [.int c, .ref p] ∧ H p = some (.lst (ps.map V.str)) ∧ PeopleOk ps ∧
  ∀ H' l qs, Same H H' → H' l = some (.lst (refs qs)) → PairsAt H' qs → qs.length ≤ 576 → BarOk ps (qs.map (·.2)) → Q (.ref l) H'
abbrev nBarred : List Str := ["_law_cell_here", "_law_people_here", "_law_many", "_law_draws_here", "_law_weight", "_law_pairs", "_law_k", "_law_a", "_law_b"]
theorem scBarred : FnScope nBarred ["_law_cell_here", "_law_people_here"] dLawBarred.scope := ⟨rfl, rfl, rfl, by decide +kernel, rfl, by decide +kernel, by decide +kernel⟩
section
variable {P : Program} {w : World} {K : PySem.W.Frag} {mg : Str → Option Value} {base : Heap}
theorem ok_barred (T : Tx K mg) : Ok P w K mg base CX0 2 dLawBarred ["_law_cell_here", "_law_people_here"] (spBarred K) := by
  have S := ok_draws (P := P) (w := w) (base := base) T
  refine Ok.mk0 T _ ixLawBarred scBarred (fun _ _ _ _ _ _ us hl => match us, hl with | [_, _], _ => rfl) (fun vs H Q E h => ?_) (fun f cdv A outer st H vs Q E hr h => ?_)
  · obtain ⟨c, p, ps, rfl, _⟩ := h
    rfl
  · obtain ⟨c, p, ps, rfl, hp, ok, k⟩ := h
    refine ⟨_, pss_cons (ps_set (i := 2) scBarred.nd rfl (.inl rfl) (pe_callB call_len (by rfl) T.f_len (by decide +kernel) (pa_cons (pv 1) pa_nil)))
      (pss_cons (ps_set (i := 3) scBarred.nd rfl (.inl rfl) (pc S hr (by decide) T.g__law_draws pass0 (pa_cons (pv 0) (pa_cons (pe_op op_add (pe_op op_mul (pv 2) (pv 2)) pe_int) pa_nil))))
      (pss_cons (ps_set (i := 4) scBarred.nd rfl (.inl rfl) (pe_ix ix_list (pe_lst (pa_cons pe_int (pa_cons pe_int (pa_cons pe_int (pa_cons pe_int (pa_cons pe_int (pa_cons pe_int pa_nil))))))) (pe_op op_mod (pe_callTy call_int1 (by rfl) T.f_int (by decide +kernel) (pa_cons (pe_ix ix_list (pv 3) pe_int (fun _ _ => rfl)) pa_nil)) pe_int) (fun _ _ => rfl)))
      (pss_cons (ps_set (i := 5) scBarred.nd rfl (.inl rfl) (pe_lst pa_nil))
      (pss_cons (ps_for PassesOwn.never rfl (pi_range1 (by rfl) T.f_range (pa_cons (pe_op op_mul (pv 2) (pv 2)) pa_nil)) (pg_name (i := 6) scBarred.nd rfl (.inl rfl))
        (pss_cons (ps_set (i := 7) scBarred.nd rfl (.inl rfl) (pe_ix ix_list (pv 1) (pe_op op_fdiv (pv 6) (pv 2)) (fun _ _ => rfl)))
        (pss_cons (ps_set (i := 8) scBarred.nd rfl (.inl rfl) (pe_ix ix_list (pv 1) (pe_op op_mod (pe_callTy call_int1 (by rfl) T.f_int (by decide +kernel) (pa_cons (pv 6) pa_nil)) (pv 2)) (fun _ _ => rfl)))
        (pss_one (ps_if (PW.pt (pw_and (pt_cmpR op_ne (pv 7) (pv 8) (nomark _)) (pw_and1 (pt_cmpR op_lt (pe_op op_mod (pe_callTy call_int1 (by rfl) T.f_int (by decide +kernel) (pa_cons (pe_ix ix_list (pv 3) (pe_op op_add (pv 6) pe_int) (fun _ _ => rfl)) pa_nil)) pe_int) (pv 4) (nomark _)))))
          (pss_one (ps_expr (pe_bm PySem.F.plainAttrs_list PySem.F.slot_list_append PySem.F.type_list_append mt_append (pv 5) (pa_cons (pe_tup (pa_cons (pv 7) (pa_cons (pv 8) pa_nil))) pa_nil)))) pss_nil)))))
      (pss_cons (ps_if (pt_cmpR op_eq (pe_op op_mod (pe_callTy call_int1 (by rfl) T.f_int (by decide +kernel) (pa_cons (pe_op op_fdiv (pe_ix ix_list (pv 3) pe_int (fun _ _ => rfl)) pe_int) pa_nil)) pe_int) pe_int (nomark _))
        (pss_one (ps_set (i := 5) scBarred.nd rfl (.inl rfl) (pe_revL (pv 5)))) pss_nil)
      (pss_one (ps_ret (pv 5)))))))), ?_⟩
    have n24 := ok.hi
    have n2 := ok.lo
    refine ⟨_, rfl, _, ps.length, rfl, len_go (SqL.of hp), ?_⟩
    obtain ⟨n, hn⟩ : ∃ n, ps.length = n := ⟨_, rfl⟩
    rw [hn] at n24 n2 ⊢
    have nn : n * n ≤ 576 := Nat.mul_le_mul n24 n24
    have e1 : (n : Int) * (n : Int) + 1 = ((n * n + 1 : Nat) : Int) := by rw [Int.natCast_add, Int.natCast_mul]; rfl
    refine ⟨_, rfl, _, rfl, _, rfl, _, _, rfl, rfl, .inl ⟨by omega, by omega⟩, _, _, rfl, rfl, c, n * n + 1, by show [V.int c, V.int ((n : Int) * (n : Int) + 1)] = _; rw [e1], by omega, fun H1 l ds s1 _ hl len dok => ?_⟩
    have d0 : 0 < ds.length := by omega
    have b0 := dok _ (List.getElem_mem d0)
    refine ⟨by decide, fun t ht => ?_⟩
    have hl2 : (upd H1 t (.lst [V.int 0, .int 1, .int 2, .int 3, .int 5, .int 8])) l = some (.lst (ds.map V.int)) := Same.new ht _ _ hl
    have s2 : Same H (upd H1 t (.lst [V.int 0, .int 1, .int 2, .int 3, .int 5, .int 8])) := Same.new' s1 ht
    refine ⟨_, rfl, l, _, (0 : Nat), _, rfl, rfl, SqL.of hl2, atI_ints d0, .inl ⟨_, rfl, _, _, rfl, rfl, by show (0 : Int) < 6; decide, ?_⟩⟩
    obtain ⟨wn, hw, hwl⟩ : ∃ wn : Nat, ds[0] % 6 = (wn : Int) ∧ wn < 6 := ⟨(ds[0] % 6).toNat, by omega, by omega⟩
    have wl : wn < ([0, 1, 2, 3, 5, 8] : List Int).length := hwl
    refine ⟨t, _, _, _, rfl, rfl, SqL.of upd_same, by rw [hw]; exact atI_ints wl, ?_⟩
    generalize ([0, 1, 2, 3, 5, 8] : List Int)[wn] = wt
    generalize upd H1 t (.lst [V.int 0, .int 1, .int 2, .int 3, .int 5, .int 8]) = H2 at hl2 s2 ⊢
    refine ⟨by decide, fun D hD => ?_⟩
    have s3 := Same.new' (o := .lst []) s2 hD
    have hl3 : (upd H2 D (.lst [])) l = some (.lst (ds.map V.int)) := Same.new hD _ _ hl2
    have d3 : (upd H2 D (.lst [])) D = some (.lst []) := upd_same
    have hD0 := s2.free hD
    generalize upd H2 D (.lst []) = H3 at s3 hl3 d3 ⊢
    have e2 : (n : Int) * (n : Int) = ((n * n : Nat) : Int) := by rw [Int.natCast_mul]
    refine ⟨_, rfl, _, rfl, _, _, rfl, rfl, .inl ⟨by omega, by omega⟩, (n : Int) * (n : Int), rfl, by omega, by omega, ?_⟩
    have rg : ((n : Int) * (n : Int)).toNat = n * n := by rw [e2]; exact Int.toNat_natCast _
    rw [rg]
    have lnD : l ≠ D := fun e => by rw [e] at hl2; rw [hl2] at hD; cases hD
    refine for_w (Wk.range (lo := 0) (n := n * n)) (fun i σ H' => ∃ (v6 v7 v8 : Option V) (qs : List (Addr × (Str × Str))), σ = [some (.int c), some (.ref p), some (.int (n : Int)), some (.ref l), some (.int wt), some (.ref D), v6, v7, v8] ∧ Same H H' ∧ H' l = some (.lst (ds.map V.int)) ∧ H' D = some (.lst (refs qs)) ∧ PairsAt H' qs ∧ qs.length ≤ i ∧ BarOk ps (qs.map (·.2)))
      ⟨none, none, none, [], rfl, s3, hl3, d3, fun q m => absurd m (by simp), by simp, fun q m => absurd m (by simp)⟩ (fun _ _ _ _ _ => trivial) ?_ ?_
    · rintro i y σ H4 H4' hi ⟨v6, v7, v8, qs, rfl, s4, l4, d4, q4, len4, b4⟩ ⟨rfl, rfl⟩
      have z0 : (0 : Int) + (i : Int) = ((i : Nat) : Int) := by omega
      rw [z0]
      have n0 : (0 : Int) < (n : Int) := by omega
      have ia : i / n < ps.length := by rw [hn]; exact Nat.div_lt_of_lt_mul hi
      have ib : i % n < ps.length := by rw [hn]; exact Nat.mod_lt _ (by omega)
      have ea : (i : Int) / (n : Int) = ((i / n : Nat) : Int) := by simp
      have eb : (i : Int) % (n : Int) = ((i % n : Nat) : Int) := by simp
      refine ⟨_, rfl, _, rfl, _, rfl, _, _, rfl, rfl, ⟨n0, by omega⟩, p, _, _, _, rfl, rfl, SqL.of (s4 _ _ hp), by rw [ea]; exact atI_strs ia, ?_⟩
      refine ⟨_, rfl, _, rfl, .inl ⟨_, rfl, _, rfl, _, _, rfl, rfl, n0, p, _, _, _, rfl, rfl, SqL.of (s4 _ _ hp), by rw [eb]; exact atI_strs ib, ?_⟩⟩
      have ma : ps[i / n] ∈ ps := List.getElem_mem ia
      have mb : ps[i % n] ∈ ps := List.getElem_mem ib
      generalize ps[i / n] = a at ma ⊢
      generalize ps[i % n] = b at mb ⊢
      refine ⟨_, rfl, _, rfl, ne_strs ⟨_, rfl, ?_⟩⟩
      by_cases ab : a = b
      · rw [decide_eq_true ab]
        exact iteF (iteF ⟨_, _, _, qs, rfl, s4, l4, d4, q4, by omega, b4⟩)
      · rw [decide_eq_false ab]
        refine iteT ?_
        have i1 : i + 1 < ds.length := by omega
        have e3 : (i : Int) + 1 = ((i + 1 : Nat) : Int) := by omega
        refine ⟨_, rfl, _, rfl, _, _, rfl, rfl, l, _, _, _, rfl, rfl, SqL.of l4, by rw [e3]; exact atI_ints i1, .inl ⟨_, rfl, _, _, rfl, rfl, by show (0 : Int) < 12; decide, _, rfl, _, _, rfl, rfl, _, rfl, ?_⟩⟩
        by_cases lt : ds[i + 1] % 12 < wt
        · rw [decide_eq_true lt]
          refine iteT ?_
          refine ⟨_, rfl, .inl ⟨rfl, _, SqL.of d4⟩, _, rfl, _, rfl, by show 2 ≤ sizeLine; decide, fun t ht => ?_⟩
          have nDt : D ≠ t := ne_of_none d4 ht
          have d5 : (upd H4' t (.tup [.str a, .str b])) D = some (.lst (refs qs)) := Same.new ht _ _ d4
          refine ⟨D, _, _, rfl, rfl, d5, by rw [refs_len]; exact sz1000 (by omega), ?_⟩
          refine ⟨_, _, _, qs ++ [(t, (a, b))], rfl, Same.mut (Same.new' s4 ht) hD0, by rw [upd_ne lnD]; exact Same.new ht _ _ l4, by rw [upd_same]; unfold refs; rw [List.map_append]; rfl, fun q hq => ?_, by rw [List.length_append]; simp; omega, fun q hq => ?_⟩
          · rcases List.mem_append.mp hq with m | m
            · have e := q4 q m
              have h1 : q.1 ≠ D := fun z => by rw [z, d4] at e; cases e
              have h2 : q.1 ≠ t := fun z => by rw [z, ht] at e; cases e
              rw [upd_ne h1, upd_ne h2]
              exact e
            · rw [List.mem_singleton.mp m]
              show upd (upd H4' t _) D _ t = _
              rw [upd_ne (Ne.symm nDt), upd_same]
          · rw [List.map_append] at hq
            rcases List.mem_append.mp hq with m | m
            · exact b4 q m
            · rw [List.mem_singleton.mp m]
              exact ⟨ab, ma, mb⟩
        · rw [decide_eq_false lt]
          exact iteF ⟨_, _, _, qs, rfl, s4, l4, d4, q4, by omega, b4⟩
    · rintro σ H4 ⟨v6, v7, v8, qs, rfl, s4, l4, d4, q4, len4, b4⟩
      have two : (0 : Int) < 2 := by decide
      refine ⟨_, rfl, l, _, (0 : Nat), _, rfl, rfl, SqL.of l4, atI_ints d0, _, _, rfl, rfl, ⟨by decide, by decide⟩, .inl ⟨_, rfl, _, _, rfl, rfl, two, rfl, _, rfl, ?_⟩⟩
      by_cases cc : V.int (ds[0] / 6 % 2) = V.int 1
      · rw [decide_eq_true cc]
        refine iteT ⟨_, rfl, D, _, rfl, SqL.of d4, fun r hr => ?_⟩
        refine ⟨_, rfl, k _ r qs.reverse (Same.new' s4 hr) (by rw [upd_same]; unfold refs; rw [List.map_reverse]) (q4.rev.same (Same.new hr)) (by rw [List.length_reverse]; omega) fun q m => b4 q ?_⟩
        rw [List.map_reverse] at m
        exact List.mem_reverse.mp m
      · rw [decide_eq_false cc]
        exact iteF ⟨_, rfl, k H4 D qs s4 d4 q4 (by omega) b4⟩
end
end GF

/- LHid -/
set_option Elab.async false
set_option linter.all false
set_option maxRecDepth 100000
set_option maxHeartbeats 4000000
namespace GF
open PySem PySem.Spec PyProof.Rows L2 GR
theorem cutV_from {xs : List V} {k : Nat} (h : k ≤ xs.length) : cutV xs (some (k : Int)) none = xs.drop k := by
  unfold cutV
  rw [HT.sIx_none, HT.sIx_nat, Nat.min_eq_left h, List.take_of_length_le]
  rw [List.length_drop]
  exact Nat.le_refl _
/-- a drawing that nobody is told: no giver gives to itself -/
structure HidOk (ps : List Str) (es : List (Str × Str)) : Prop where
  nd : (keys es).Nodup
  ks : ∀ x, x ∈ keys es ↔ x ∈ ps
  at_ : ∀ x y, gt es x = some y → y ∈ ps ∧ x ≠ y
  inj : ∀ x x' y, gt es x = some y → gt es x' = some y → x = x'
theorem hid_of {ps o : List Str} {es : List (Str × Str)} {s : Nat} (nd : ps.Nodup) (pm : o.Perm ps) (s1 : 1 ≤ s) (s2 : s < o.length) (hk : keys es = o) (hg : ∀ (k : Nat) (x : Str), o[k]? = some x → gt es x = o[(k + s) % o.length]?) : HidOk ps es := by
  have ndo : o.Nodup := pm.nodup_iff.mpr nd
  have at_ : ∀ x y, gt es x = some y → ∃ k : Nat, k < o.length ∧ o[k]? = some x ∧ o[(k + s) % o.length]? = some y := fun x y e => by
    have hx := gt_some_key e
    rw [hk] at hx
    obtain ⟨k, hkl, ex⟩ := List.mem_iff_getElem.mp hx
    have hx' : o[k]? = some x := by rw [List.getElem?_eq_getElem hkl, ex]
    exact ⟨k, hkl, hx', by rw [← hg k x hx']; exact e⟩
  have idx : ∀ (i j : Nat) (z : Str), o[i]? = some z → o[j]? = some z → i = j := fun i j z h1 h2 => by
    obtain ⟨a1, b1⟩ := List.getElem?_eq_some_iff.mp h1
    obtain ⟨a2, b2⟩ := List.getElem?_eq_some_iff.mp h2
    exact (List.getElem_inj ndo).mp (b1.trans b2.symm)
  refine ⟨by rw [hk]; exact ndo, fun x => by rw [hk]; exact pm.mem_iff, fun x y e => ?_, fun x x' y e e' => ?_⟩
  · obtain ⟨k, hkl, h1, h2⟩ := at_ x y e
    refine ⟨pm.mem_iff.mp (List.mem_of_getElem? h2), fun z => ?_⟩
    rw [z] at h1
    have := idx _ _ _ h1 h2
    rcases Nat.lt_or_ge (k + s) o.length with c | c
    · rw [Nat.mod_eq_of_lt c] at this
      omega
    · rw [Nat.mod_eq_sub_mod c, Nat.mod_eq_of_lt (by omega)] at this
      omega
  · obtain ⟨k, hkl, h1, h2⟩ := at_ x y e
    obtain ⟨k', hkl', h1', h2'⟩ := at_ x' y e'
    have q := idx _ _ _ h2 h2'
    have : k = k' := by
      rcases Nat.lt_or_ge (k + s) o.length with c | c <;> rcases Nat.lt_or_ge (k' + s) o.length with c' | c'
      · rw [Nat.mod_eq_of_lt c, Nat.mod_eq_of_lt c'] at q; omega
      · rw [Nat.mod_eq_of_lt c, Nat.mod_eq_sub_mod c', Nat.mod_eq_of_lt (by omega)] at q; omega
      · rw [Nat.mod_eq_of_lt c', Nat.mod_eq_sub_mod c, Nat.mod_eq_of_lt (by omega)] at q; omega
      · rw [Nat.mod_eq_sub_mod c, Nat.mod_eq_sub_mod c', Nat.mod_eq_of_lt (by omega), Nat.mod_eq_of_lt (by omega)] at q; omega
    subst this
    rw [h1] at h1'
    exact Option.some.inj h1'
theorem ins_perm {o : List Str} {x : Str} {k : Nat} : (o.take k ++ [x] ++ o.drop k).Perm (o ++ [x]) := by
  have e : (o.take k ++ [x] ++ o.drop k).Perm (o.take k ++ o.drop k ++ [x]) := by
    rw [List.append_assoc, List.append_assoc]
    exact List.Perm.append_left _ List.perm_append_comm
  rw [List.take_append_drop] at e
  exact e
def spHidden (K : PySem.W.Frag) : Sp := fun vs H Q _ => ∃ (c : Int) (p : Addr) (ps : List Str), vs = [.int c, .ref p] ∧ H p = some (.lst (ps.map V.str)) ∧ PeopleOk ps ∧ ∀ H' d es, Same H H' → H' d = some (dS es) → HidOk ps es → Q (.ref d) H'
abbrev nHidden : List Str := ["_law_cell_here", "_law_people_here", "_law_draws_here", "_law_order", "_law_k", "_law_at", "_law_shift", "_law_takers"]
theorem scHidden : FnScope nHidden ["_law_cell_here", "_law_people_here"] dLawHidden.scope := ⟨rfl, rfl, rfl, by decide +kernel, rfl, by decide +kernel, by decide +kernel⟩
section
variable {P : Program} {w : World} {K : PySem.W.Frag} {mg : Str → Option Value} {base : Heap}
theorem ok_hidden (T : Tx K mg) : Ok P w K mg base CX0 2 dLawHidden ["_law_cell_here", "_law_people_here"] (spHidden K) := by
  have S := ok_draws (P := P) (w := w) (base := base) T
  refine Ok.mk0 T _ ixLawHidden scHidden (fun _ _ _ _ _ _ us hl => match us, hl with | [_, _], _ => rfl) (fun vs H Q E h => ?_) (fun f cdv A outer st H vs Q E hr h => ?_)
  · obtain ⟨c, p, ps, rfl, _⟩ := h
    rfl
  · have hu := hu_of hr
    obtain ⟨c, p, ps, rfl, hp, ok, k⟩ := h
    refine ⟨_, pss_cons (ps_set (i := 2) scHidden.nd rfl (.inl rfl) (pc S hr (by decide) T.g__law_draws pass0 (pa_cons (pv 0) (pa_cons (pe_op op_add (pe_callB call_len (by rfl) T.f_len (by decide +kernel) (pa_cons (pv 1) pa_nil)) pe_int) pa_nil))))
      (pss_cons (ps_set (i := 3) scHidden.nd rfl (.inl rfl) (pe_lst pa_nil))
      (pss_cons (ps_for PassesOwn.never rfl (pi_range1 (by rfl) T.f_range (pa_cons (pe_callB call_len (by rfl) T.f_len (by decide +kernel) (pa_cons (pv 1) pa_nil)) pa_nil)) (pg_name (i := 4) scHidden.nd rfl (.inl rfl))
        (pss_cons (ps_set (i := 5) scHidden.nd rfl (.inl rfl) (pe_op op_mod (pe_callTy call_int1 (by rfl) T.f_int (by decide +kernel) (pa_cons (pe_ix ix_list (pv 2) (pv 4) (fun _ _ => rfl)) pa_nil)) (pe_op op_add (pe_callB call_len (by rfl) T.f_len (by decide +kernel) (pa_cons (pv 3) pa_nil)) pe_int)))
        (pss_one (ps_set (i := 3) scHidden.nd rfl (.inl rfl) (pe_op op_cat (pe_op op_cat (pe_slice sl_list (pv 3) po_none (po_some (pv 5))) (pe_lst (pa_cons (pe_ix ix_list (pv 1) (pv 4) (fun _ _ => rfl)) pa_nil))) (pe_slice sl_list (pv 3) (po_some (pv 5)) po_none))))))
      (pss_cons (ps_set (i := 6) scHidden.nd rfl (.inl rfl) (pe_op op_add pe_int (pe_op op_mod (pe_callTy call_int1 (by rfl) T.f_int (by decide +kernel) (pa_cons (pe_ix ix_list (pv 2) (pe_callB call_len (by rfl) T.f_len (by decide +kernel) (pa_cons (pv 1) pa_nil)) (fun _ _ => rfl)) pa_nil)) (pe_op op_sub (pe_callB call_len (by rfl) T.f_len (by decide +kernel) (pa_cons (pv 1) pa_nil)) pe_int))))
      (pss_cons (ps_set (i := 7) scHidden.nd rfl (.inl rfl) pe_dnewK)
      (pss_cons (ps_for PassesOwn.never rfl (pi_range1 (by rfl) T.f_range (pa_cons (pe_callB call_len (by rfl) T.f_len (by decide +kernel) (pa_cons (pv 3) pa_nil)) pa_nil)) (pg_name (i := 4) scHidden.nd rfl (.inl rfl))
        (pss_one (ps_dput hu (pv 7) (pe_ix ix_list (pv 3) (pv 4) (fun _ _ => rfl)) (pe_ix ix_list (pv 3) (pe_op op_mod (pe_callTy call_int1 (by rfl) T.f_int (by decide +kernel) (pa_cons (pe_op op_add (pv 4) (pv 6)) pa_nil)) (pe_callB call_len (by rfl) T.f_len (by decide +kernel) (pa_cons (pv 3) pa_nil))) (fun _ _ => rfl)) rfl)))
      (pss_one (ps_ret (pv 7)))))))), ?_⟩
    have n24 := ok.hi
    have n2 := ok.lo
    have lenP : ∀ {H' : Hp}, Same H H' → LenV K (.ref p) H' ps.length := fun s => len_go (SqL.of (s _ _ hp))
    have e1 : (ps.length : Int) + 1 = ((ps.length + 1 : Nat) : Int) := by omega
    refine ⟨_, rfl, _, rfl, _, ps.length, rfl, lenP (Same.refl H), _, _, rfl, rfl, c, ps.length + 1, by show [V.int c, V.int ((ps.length : Int) + 1)] = _; rw [e1], by omega, fun H1 l ds s1 _ hl len dok => ?_⟩
    refine ⟨by decide, fun o0 ho0 => ?_⟩
    have s2 := Same.new' (o := .lst []) s1 ho0
    have hl2 : (upd H1 o0 (.lst [])) l = some (.lst (ds.map V.int)) := Same.new ho0 _ _ hl
    have ho : (upd H1 o0 (.lst [])) o0 = some (.lst []) := upd_same
    generalize upd H1 o0 (.lst []) = H2 at s2 hl2 ho ⊢
    refine ⟨_, rfl, _, ps.length, rfl, lenP s2, (ps.length : Int), rfl, by omega, by omega, ?_⟩
    have rg : ((ps.length : Int)).toNat = ps.length := Int.toNat_natCast _
    rw [rg]
    refine for_w (Wk.range (lo := 0) (n := ps.length)) (fun i σ H' => ∃ (v4 v5 : Option V) (oa : Addr) (o : List Str), σ = [some (.int c), some (.ref p), some (.ref l), some (.ref oa), v4, v5, none, none] ∧ Same H H' ∧ H' l = some (.lst (ds.map V.int)) ∧ H' oa = some (.lst (o.map V.str)) ∧ o.Perm (ps.take i))
      ⟨none, none, o0, [], rfl, s2, hl2, ho, by rw [List.take_zero]⟩ (fun _ _ _ _ _ => trivial) ?_ ?_
    · rintro i y σ H3 H3' hi ⟨v4, v5, oa, o, rfl, s3, l3, o3, pm⟩ ⟨rfl, rfl⟩
      have z0 : (0 : Int) + (i : Int) = ((i : Nat) : Int) := by omega
      rw [z0]
      have id1 : i < ds.length := by omega
      have ol : o.length = i := by rw [pm.length_eq, List.length_take]; omega
      have b1 := dok _ (List.getElem_mem id1)
      have p0 : (0 : Int) < (o.length : Int) + 1 := by omega
      refine ⟨_, rfl, _, rfl, l, _, _, _, rfl, rfl, SqL.of l3, atI_ints id1, .inl ⟨_, rfl, _, rfl, _, o.length, rfl, len_go (SqL.of o3), _, _, rfl, rfl, _, _, rfl, rfl, p0, ?_⟩⟩
      have l0 := Int.emod_nonneg ds[i] (show (o.length : Int) + 1 ≠ 0 by omega)
      have l1 := Int.emod_lt_of_pos ds[i] p0
      obtain ⟨at_, hat⟩ : ∃ a : Nat, ds[i] % ((o.length : Int) + 1) = (a : Int) := ⟨(ds[i] % ((o.length : Int) + 1)).toNat, by omega⟩
      have atl : at_ ≤ o.length := by omega
      dsimp only
      rw [hat]
      have atl' : at_ ≤ (o.map V.str).length := by rw [List.length_map]; exact atl
      refine ⟨_, rfl, _, rfl, _, rfl, oa, _, rfl, SqL.of o3, fun a1 h1 => ?_⟩
      rw [cutV_to atl']
      have s4 := Same.new' (o := .lst ((o.map V.str).take at_)) s3 h1
      refine ⟨_, rfl, _, rfl, p, _, _, _, rfl, rfl, SqL.of (s4 _ _ hp), atI_strs hi, by show 1 ≤ sizeLine; decide, fun a2 h2 => ?_⟩
      have t1 : (upd (upd H3' a1 (.lst ((o.map V.str).take at_))) a2 (.lst [V.str ps[i]])) a1 = some (.lst ((o.map V.str).take at_)) := Same.new h2 _ _ upd_same
      have tl : ((o.map V.str).take at_).length ≤ 24 := by rw [List.length_take, List.length_map]; omega
      refine ⟨a1, a2, _, _, rfl, rfl, t1, upd_same, sz1000' (by simp; omega), fun a3 h3 => ?_⟩
      have s6 := Same.new' (o := .lst ((o.map V.str).take at_ ++ [V.str ps[i]])) (Same.new' (o := .lst [V.str ps[i]]) s4 h2) h3
      have o6 : (upd (upd (upd H3' a1 (.lst ((o.map V.str).take at_))) a2 (.lst [V.str ps[i]])) a3 (.lst ((o.map V.str).take at_ ++ [V.str ps[i]]))) oa = some (.lst (o.map V.str)) := Same.new h3 _ _ (Same.new h2 _ _ (Same.new h1 _ _ o3))
      have l6 : (upd (upd (upd H3' a1 (.lst ((o.map V.str).take at_))) a2 (.lst [V.str ps[i]])) a3 (.lst ((o.map V.str).take at_ ++ [V.str ps[i]]))) l = some (.lst (ds.map V.int)) := Same.new h3 _ _ (Same.new h2 _ _ (Same.new h1 _ _ l3))
      have t3 : (upd (upd (upd H3' a1 (.lst ((o.map V.str).take at_))) a2 (.lst [V.str ps[i]])) a3 (.lst ((o.map V.str).take at_ ++ [V.str ps[i]]))) a3 = some (.lst ((o.map V.str).take at_ ++ [V.str ps[i]])) := upd_same
      generalize upd (upd (upd H3' a1 (.lst ((o.map V.str).take at_))) a2 (.lst [V.str ps[i]])) a3 (.lst ((o.map V.str).take at_ ++ [V.str ps[i]])) = H6 at s6 o6 l6 t3 ⊢
      refine ⟨_, rfl, _, rfl, _, rfl, oa, _, rfl, SqL.of o6, fun a4 h4 => ?_⟩
      rw [cutV_from atl']
      refine ⟨a3, a4, _, _, rfl, rfl, Same.new h4 _ _ t3, upd_same, ?_, fun a5 h5 => ?_⟩
      · rw [List.length_append, List.length_drop, List.length_map]
        exact sz1000' (by simp; omega)
      · refine ⟨_, _, a5, o.take at_ ++ [ps[i]] ++ o.drop at_, rfl, Same.new' (Same.new' s6 h4) h5, Same.new h5 _ _ (Same.new h4 _ _ l6), ?_, ?_⟩
        · rw [upd_same, List.map_append, List.map_append, List.map_take, List.map_drop]
          rfl
        · rw [take_snoc (List.getElem?_eq_getElem hi)]
          exact ins_perm.trans (List.Perm.append_right _ pm)
    · rintro σ H3 ⟨v4, v5, oa, o, rfl, s3, l3, o3, pm⟩
      rw [List.take_length] at pm
      have ol : o.length = ps.length := pm.length_eq
      have id1 : ps.length < ds.length := by omega
      have b1 := dok _ (List.getElem_mem id1)
      have p0 : (0 : Int) < (ps.length : Int) - 1 := by omega
      refine ⟨_, rfl, _, rfl, _, ps.length, rfl, lenP s3, l, _, _, _, rfl, rfl, SqL.of l3, atI_ints id1, .inl ⟨_, rfl, _, rfl, _, ps.length, rfl, lenP s3, _, _, rfl, rfl, _, _, rfl, rfl, p0, _, _, rfl, rfl, ?_⟩⟩
      have l0 := Int.emod_nonneg ds[ps.length] (show (ps.length : Int) - 1 ≠ 0 by omega)
      have l1 := Int.emod_lt_of_pos ds[ps.length] p0
      obtain ⟨s, hs⟩ : ∃ s : Nat, 1 + ds[ps.length] % ((ps.length : Int) - 1) = (s : Int) := ⟨(1 + ds[ps.length] % ((ps.length : Int) - 1)).toNat, by omega⟩
      have s1' : 1 ≤ s ∧ s < o.length := by omega
      dsimp only
      rw [hs]
      intro D hD
      have s4 := Same.new' (o := .dK []) s3 hD
      have o4 : (upd H3 D (.dK [])) oa = some (.lst (o.map V.str)) := Same.new hD _ _ o3
      have d4 : (upd H3 D (.dK [])) D = some (dS []) := upd_same
      have hD0 := s3.free hD
      generalize upd H3 D (.dK []) = H4 at s4 o4 d4 ⊢
      refine ⟨_, rfl, _, o.length, rfl, len_go (SqL.of o4), (o.length : Int), rfl, by omega, by omega, ?_⟩
      have rg2 : ((o.length : Int)).toNat = o.length := Int.toNat_natCast _
      rw [rg2]
      have noD : oa ≠ D := fun e => by rw [e, hD] at o3; cases o3
      have ndo : o.Nodup := pm.nodup_iff.mpr ok.nd
      refine for_w (Wk.range (lo := 0) (n := o.length)) (fun i σ H' => ∃ (v4 v5 : Option V) (es : List (Str × Str)), σ = [some (.int c), some (.ref p), some (.ref l), some (.ref oa), v4, v5, some (.int (s : Int)), some (.ref D)] ∧ Same H H' ∧ H' oa = some (.lst (o.map V.str)) ∧ H' D = some (dS es) ∧ keys es = o.take i ∧
          ∀ (k : Nat) (x : Str), k < i → o[k]? = some x → gt es x = o[(k + s) % o.length]?)
        ⟨_, _, [], rfl, s4, o4, d4, rfl, fun k x h => absurd h (by omega)⟩ (fun _ _ _ _ _ => trivial) ?_ ?_
      · rintro i y σ H5 H5' hi ⟨v4, v5, es, rfl, s5, o5, d5, k5, g5⟩ ⟨rfl, rfl⟩
        have z0 : (0 : Int) + (i : Int) = ((i : Nat) : Int) := by omega
        rw [z0]
        have n0 : (0 : Int) < (o.length : Int) := by omega
        have im : (i + s) % o.length < o.length := Nat.mod_lt _ (by omega)
        have em : ((i : Int) + (s : Int)) % (o.length : Int) = (((i + s) % o.length : Nat) : Int) := by
          rw [← Int.natCast_add]
          rfl
        have el : es.length ≤ 24 := by
          have := len_of_keys k5
          rw [List.length_take] at this
          omega
        refine ⟨_, rfl, _, rfl, _, rfl, _, _, rfl, rfl, .inl ⟨_, rfl, _, rfl, _, o.length, rfl, len_go (SqL.of o5), _, _, rfl, rfl, n0, oa, _, _, _, rfl, rfl, SqL.of o5, by rw [em]; exact atI_strs im, ?_⟩⟩
        refine ⟨_, rfl, _, rfl, _, rfl, oa, _, _, _, rfl, rfl, SqL.of o5, atI_strs hi, D, _, rfl, dput_s d5 o[i] o[(i + s) % o.length] (sz1000 (by omega)), ?_⟩
        have hi' : o[i]? = some o[i] := List.getElem?_eq_getElem hi
        refine ⟨_, _, _, rfl, Same.mut s5 hD0, by rw [upd_ne noD]; exact o5, upd_same, ?_, fun k x hk hx => ?_⟩
        · rw [keys_put, if_neg (by rw [k5]; exact not_mem_take ndo hi'), k5, take_snoc hi']
        · rw [gt_put]
          by_cases c : x = o[i]
          · rw [if_pos c]
            rw [c] at hx
            obtain ⟨a1, b1⟩ := List.getElem?_eq_some_iff.mp hx
            have : k = i := (List.getElem_inj ndo).mp b1
            rw [this, List.getElem?_eq_getElem im]
          · rw [if_neg c]
            refine g5 k x ?_ hx
            rcases Nat.lt_or_ge k i with q | q
            · exact q
            · exfalso
              have : k = i := by omega
              rw [this, hi'] at hx
              exact c (Option.some.inj hx).symm
      · rintro σ H5 ⟨v4, v5, es, rfl, s5, o5, d5, k5, g5⟩
        rw [List.take_length] at k5
        refine ⟨_, rfl, k H5 D es s5 d5 (hid_of ok.nd pm s1'.1 s1'.2 k5 fun k x hx => g5 k x ?_ hx)⟩
        exact (List.getElem?_eq_some_iff.mp hx).1
end
end GF

/- LLeak -/
set_option Elab.async false
set_option linter.all false
set_option maxRecDepth 100000
set_option maxHeartbeats 4000000
namespace GF
open PySem PySem.Spec PyProof.Rows L2 GR
theorem no_ {a b : Str} {B C : Prop} (n : a ≠ b) (c : C) : if decide (V.str a = V.str b) = true then B else C := by
  rw [dstr, decide_eq_false n]
  exact iteF c
theorem ye_ {a b : Str} {B C : Prop} (n : a = b) (c : B) : if decide (V.str a = V.str b) = true then B else C := by
  rw [dstr, decide_eq_true n]
  exact iteT c
theorem cutV_mid {xs : List V} {i j : Nat} (h : j ≤ xs.length) (h2 : i ≤ j) : cutV xs (some (i : Int)) (some (j : Int)) = (xs.drop i).take (j - i) := by
  unfold cutV
  rw [HT.sIx_nat, HT.sIx_nat, Nat.min_eq_left h, Nat.min_eq_left (Nat.le_trans h2 h)]
theorem rot_perm {α : Type} (xs : List α) (k : Nat) : (xs.drop k ++ xs.take k).Perm xs := by
  have e : (xs.drop k ++ xs.take k).Perm (xs.take k ++ xs.drop k) := List.perm_append_comm
  rw [List.take_append_drop] at e
  exact e
theorem LotOk.perm {ps xs ys : List Str} (h : LotOk ps xs) (p : ys.Perm xs) : LotOk ps ys := ⟨fun e => h.1 (by rw [e] at p; exact p.symm.eq_nil), p.nodup_iff.mpr h.2.1, fun x hx => h.2.2 x (p.mem_iff.mp hx)⟩
def spLLot (K : PySem.W.Frag) : Sp := fun vs H Q _ => ∃ (l p : Addr) (wt : Int) (ds : List Int) (ps : List Str), vs = [.ref l, .ref p, .int wt] ∧ H l = some (.lst (ds.map V.int)) ∧ H p = some (.lst (ps.map V.str)) ∧ PeopleOk ps ∧ ps.length ≤ ds.length ∧ ds.length ≤ 5000 ∧
  ∀ H' t xs, Same H H' → H' t = some (.tup (xs.map V.str)) → LotOk ps xs → Q (.ref t) H'
abbrev nLLot : List Str := ["_law_draws_here", "_law_people_here", "_law_weight", "_law_chosen", "_law_k", "_law_shift"]
theorem scLLot : FnScope nLLot ["_law_draws_here", "_law_people_here", "_law_weight"] dLawLot.scope := ⟨rfl, rfl, rfl, by decide +kernel, rfl, by decide +kernel, by decide +kernel⟩
def spLLeak (K : PySem.W.Frag) : Sp := fun vs H Q _ => ∃ (c : Int) (p : Addr) (ps : List Str), vs = [.int c, .ref p] ∧ H p = some (.lst (ps.map V.str)) ∧ PeopleOk ps ∧ ∀ H' t k, Same H H' → LkAt K H' t k → LkOk ps k → Q (.ref t) H'
abbrev nLLeak : List Str := ["_law_cell_here", "_law_people_here", "_law_many", "_law_draws_here", "_law_word", "_law_a", "_law_b", "_law_givers", "_law_takers"]
theorem scLLeak : FnScope nLLeak ["_law_cell_here", "_law_people_here"] dLawLeak.scope := ⟨rfl, rfl, rfl, by decide +kernel, rfl, by decide +kernel, by decide +kernel⟩
section
variable {P : Program} {w : World} {K : PySem.W.Frag} {mg : Str → Option Value} {base : Heap}
theorem ok_llot (T : Tx K mg) : Ok P w K mg base CX0 1 dLawLot ["_law_draws_here", "_law_people_here", "_law_weight"] (spLLot K) := by
  refine Ok.mk0 T _ ixLawLot scLLot (fun _ _ _ _ _ _ us hl => match us, hl with | [_, _, _], _ => rfl) (fun vs H Q E h => ?_) (fun f cdv A outer st H vs Q E hr h => ?_)
  · obtain ⟨l, p, wt, ds, ps, rfl, _⟩ := h
    rfl
  · obtain ⟨l, p, wt, ds, ps, rfl, hl, hp, ok, ld, lf, k⟩ := h
    refine ⟨_, pss_cons (ps_setLc (i := 3) (own := [("_law_k", 4)]) (g := gName 4) rfl scLLot.nd rfl rfl (sw_true rfl rfl rfl rfl) (pi_range1 (by rfl) T.f_range (pa_cons (pe_callB call_len (by rfl) T.f_len (by decide +kernel) (pa_cons (pv 1) pa_nil)) pa_nil)) (blkOk_by (N := nLLot) (sc := dLawLot.scope) (by decide +kernel))
          (fun _ _ _ _ _ => pg_name (i := 4) scLLot.nd rfl (.inl rfl)) (fun _ _ _ _ _ => pts_one (pt_cmpR op_lt (pe_op op_mod (pe_callTy (T := "int") call_int1 (by rfl) T.f_int (by decide +kernel) (pa_cons (pe_ix (ix_listK (K := K) rfl) (pv 0) (pv 4) (fun _ _ => rfl)) pa_nil)) pe_int) (pv 2) (nomark _)))
          (fun _ _ _ _ _ => pe_ix (ix_listK (K := K) rfl) (pv 1) (pv 4) (fun _ _ => rfl)))
      (pss_cons (ps_if (pt_cmpR op_eq (pe_callB call_len (by rfl) T.f_len (by decide +kernel) (pa_cons (pv 3) pa_nil)) pe_int (nomark _))
        (pss_one (ps_set (i := 3) scLLot.nd rfl (.inl rfl) (pe_lst (pa_cons (pe_ix ix_list (pv 1) (pe_op op_mod (pe_callTy call_int1 (by rfl) T.f_int (by decide +kernel) (pa_cons (pe_op op_fdiv (pe_ix ix_list (pv 0) pe_int (fun _ _ => rfl)) pe_int) pa_nil)) (pe_callB call_len (by rfl) T.f_len (by decide +kernel) (pa_cons (pv 1) pa_nil))) (fun _ _ => rfl)) pa_nil)))) pss_nil)
      (pss_cons (ps_set (i := 5) scLLot.nd rfl (.inl rfl) (pe_op op_mod (pe_callTy call_int1 (by rfl) T.f_int (by decide +kernel) (pa_cons (pe_op op_fdiv (pe_ix ix_list (pv 0) pe_int (fun _ _ => rfl)) pe_int) pa_nil)) (pe_callB call_len (by rfl) T.f_len (by decide +kernel) (pa_cons (pv 3) pa_nil))))
      (pss_one (ps_ret (pe_callTy (T := "tuple") call_tuple_of (by rfl) T.f_tuple (by decide +kernel) (pa_cons (pe_op op_cat (pe_slice sl_list (pv 3) (po_some (pv 5)) po_none) (pe_slice sl_list (pv 3) po_none (po_some (pv 5)))) pa_nil)))))), ?_⟩
    have n24 := ok.hi
    have n2 := ok.lo
    refine ⟨_, rfl, _, ps.length, rfl, len_go (SqL.of hp), (ps.length : Int), rfl, by omega, by omega, fun D hD => ?_⟩
    have rg : ((ps.length : Int)).toNat = ps.length := Int.toNat_natCast _
    rw [rg]
    refine lco_w (Wk.range (lo := 0) (n := ps.length)) (fun i H' => ∃ xs : List Str, Same H H' ∧ H' D = some (.lst (xs.map V.str)) ∧ xs.Sublist (ps.take i)) ⟨[], Same.new hD, upd_same, List.nil_sublist _⟩ (fun _ _ _ _ => trivial) ?_ ?_
    · rintro i y H1 H1' hi ⟨xs, s1, d1, sub1⟩ ⟨rfl, rfl⟩
      have z0 : (0 : Int) + (i : Int) = ((i : Nat) : Int) := by omega
      rw [z0]
      refine ⟨rfl, _, rfl, _, rfl, l, _, _, _, rfl, rfl, SqL.of (s1 _ _ hl), atI_ints (by omega), .inl ⟨_, rfl, _, _, rfl, rfl, by show (0 : Int) < 6; decide, _, rfl, _, _, rfl, rfl, _, rfl, ?_⟩⟩
      have hi' : ps[i]? = some ps[i] := List.getElem?_eq_getElem hi
      have xl : xs.length ≤ 24 := Nat.le_trans sub1.length_le (by rw [List.length_take]; omega)
      by_cases c : ds[i]'(by omega) % 6 < wt
      · rw [decide_eq_true c]
        refine iteT ⟨_, rfl, _, rfl, p, _, _, _, rfl, rfl, SqL.of (s1 _ _ hp), atI_strs hi, _, d1, by rw [List.length_map]; exact sz1000 (by omega), xs ++ [ps[i]], Same.mut s1 hD, by rw [upd_same, List.map_append]; rfl, ?_⟩
        rw [take_snoc hi']
        exact sub1.append (List.Sublist.refl _)
      · rw [decide_eq_false c]
        refine iteF ⟨xs, s1, d1, ?_⟩
        rw [take_snoc hi']
        exact sub1.trans (List.sublist_append_left _ _)
    rintro H1 ⟨xs, s1, d1, sub1⟩
    rw [List.take_length] at sub1
    have l0 : 0 < ds.length := by omega
    have p0 : (0 : Int) < (ps.length : Int) := by omega
    refine ⟨_, rfl, _, xs.length, rfl, len_go (SqL.of d1), rfl, _, rfl, ?_⟩
    by_cases e : V.int (xs.length : Int) = V.int 0
    · rw [decide_eq_true e]
      refine iteT ?_
      have q0 := Int.emod_nonneg (ds[0] / 6) (show (ps.length : Int) ≠ 0 by omega)
      have q1 := Int.emod_lt_of_pos (ds[0] / 6) p0
      obtain ⟨j, hj⟩ : ∃ j : Nat, ds[0] / 6 % (ps.length : Int) = (j : Int) := ⟨(ds[0] / 6 % (ps.length : Int)).toNat, by omega⟩
      have jl : j < ps.length := by omega
      refine ⟨_, rfl, _, rfl, l, _, (0 : Nat), _, rfl, rfl, SqL.of (s1 _ _ hl), atI_ints l0, _, _, rfl, rfl, ⟨by decide, by decide⟩, .inl ⟨_, rfl, _, rfl, _, ps.length, rfl, len_go (SqL.of (s1 _ _ hp)), _, _, rfl, rfl, p0, p, _, _, _, rfl, rfl, SqL.of (s1 _ _ hp), by rw [hj]; exact atI_strs jl, by show 1 ≤ sizeLine; decide, fun D2 hD2 => ?_⟩⟩
      have lot : LotOk ps [ps[j]] := ⟨by simp, by simp, fun x hx => by rw [List.mem_singleton.mp hx]; exact List.getElem_mem jl⟩
      have s2 := Same.new' (o := .lst [V.str ps[j]]) s1 hD2
      have d2 : (upd H1 D2 (.lst [V.str ps[j]])) D2 = some (.lst ([ps[j]].map V.str)) := upd_same
      generalize upd H1 D2 (.lst [V.str ps[j]]) = H2 at s2 d2 ⊢
      have z0 : (0 : Int) < ([ps[j]].length : Int) := by
        have := List.length_pos_iff.mpr lot.1
        omega
      have zl : [ps[j]].length ≤ 24 := Nat.le_trans (len_le_of_sub lot.2.1 lot.2.2) n24
      refine ⟨_, rfl, l, _, (0 : Nat), _, rfl, rfl, SqL.of (s2 _ _ hl), atI_ints l0, _, _, rfl, rfl, ⟨by decide, by decide⟩, .inl ⟨_, rfl, _, rfl, _, [ps[j]].length, rfl, len_go (SqL.of d2), _, _, rfl, rfl, z0, ?_⟩⟩
      have m0 := Int.emod_nonneg (ds[0] / 36) (show ([ps[j]].length : Int) ≠ 0 by omega)
      have m1 := Int.emod_lt_of_pos (ds[0] / 36) z0
      obtain ⟨sh, hsh⟩ : ∃ sh : Nat, ds[0] / 36 % ([ps[j]].length : Int) = (sh : Int) := ⟨(ds[0] / 36 % ([ps[j]].length : Int)).toNat, by omega⟩
      have shl : sh ≤ ([ps[j]].map V.str).length := by rw [List.length_map]; omega
      dsimp only
      rw [hsh]
      refine ⟨_, rfl, _, rfl, _, rfl, D2, _, rfl, SqL.of d2, fun a1 h1 => ?_⟩
      rw [cutV_from shl]
      have s4 := Same.new' (o := .lst (([ps[j]].map V.str).drop sh)) s2 h1
      refine ⟨_, rfl, _, rfl, _, rfl, D2, _, rfl, SqL.of (Same.new h1 _ _ d2), fun a2 h2 => ?_⟩
      rw [cutV_to shl]
      have t1 : (upd (upd H2 a1 (.lst (([ps[j]].map V.str).drop sh))) a2 (.lst (([ps[j]].map V.str).take sh))) a1 = some (.lst (([ps[j]].map V.str).drop sh)) := Same.new h2 _ _ upd_same
      refine ⟨a1, a2, _, _, rfl, rfl, t1, upd_same, ?_, fun a3 h3 => ?_⟩
      · rw [List.length_drop, List.length_take, List.length_map]
        exact sz1000' (by omega)
      refine ⟨a3, _, rfl, .inl ⟨SqL.of upd_same, fun a4 h4 => ?_⟩⟩
      refine k _ a4 ([ps[j]].drop sh ++ [ps[j]].take sh) (Same.new' (Same.new' (Same.new' s4 h2) h3) h4) ?_ (lot.perm (rot_perm [ps[j]] sh))
      rw [upd_same, List.map_append, List.map_drop, List.map_take]
    · rw [decide_eq_false e]
      refine iteF ?_
      have lot : LotOk ps xs := ⟨fun z => e (by rw [z]; rfl), ok.nd.sublist sub1, fun x hx => sub1.subset hx⟩
      have z0 : (0 : Int) < (xs.length : Int) := by
        have := List.length_pos_iff.mpr lot.1
        omega
      have zl : xs.length ≤ 24 := Nat.le_trans (len_le_of_sub lot.2.1 lot.2.2) n24
      refine ⟨_, rfl, l, _, (0 : Nat), _, rfl, rfl, SqL.of (s1 _ _ hl), atI_ints l0, _, _, rfl, rfl, ⟨by decide, by decide⟩, .inl ⟨_, rfl, _, rfl, _, xs.length, rfl, len_go (SqL.of d1), _, _, rfl, rfl, z0, ?_⟩⟩
      have m0 := Int.emod_nonneg (ds[0] / 36) (show (xs.length : Int) ≠ 0 by omega)
      have m1 := Int.emod_lt_of_pos (ds[0] / 36) z0
      obtain ⟨sh, hsh⟩ : ∃ sh : Nat, ds[0] / 36 % (xs.length : Int) = (sh : Int) := ⟨(ds[0] / 36 % (xs.length : Int)).toNat, by omega⟩
      have shl : sh ≤ (xs.map V.str).length := by rw [List.length_map]; omega
      dsimp only
      rw [hsh]
      refine ⟨_, rfl, _, rfl, _, rfl, D, _, rfl, SqL.of d1, fun a1 h1 => ?_⟩
      rw [cutV_from shl]
      have s4 := Same.new' (o := .lst ((xs.map V.str).drop sh)) s1 h1
      refine ⟨_, rfl, _, rfl, _, rfl, D, _, rfl, SqL.of (Same.new h1 _ _ d1), fun a2 h2 => ?_⟩
      rw [cutV_to shl]
      have t1 : (upd (upd H1 a1 (.lst ((xs.map V.str).drop sh))) a2 (.lst ((xs.map V.str).take sh))) a1 = some (.lst ((xs.map V.str).drop sh)) := Same.new h2 _ _ upd_same
      refine ⟨a1, a2, _, _, rfl, rfl, t1, upd_same, ?_, fun a3 h3 => ?_⟩
      · rw [List.length_drop, List.length_take, List.length_map]
        exact sz1000' (by omega)
      refine ⟨a3, _, rfl, .inl ⟨SqL.of upd_same, fun a4 h4 => ?_⟩⟩
      refine k _ a4 (xs.drop sh ++ xs.take sh) (Same.new' (Same.new' (Same.new' s4 h2) h3) h4) ?_ (lot.perm (rot_perm xs sh))
      rw [upd_same, List.map_append, List.map_drop, List.map_take]
end
end GF

/- LLeakB -/
set_option Elab.async false
set_option linter.all false
set_option maxRecDepth 100000
set_option maxHeartbeats 4000000
namespace GF
open PySem PySem.Spec PyProof.Rows L2 GR
abbrev wordL : List Str := ["not", "this", "one", "from", "lot", "never"]
section
variable {P : Program} {w : World} {K : PySem.W.Frag} {mg : Str → Option Value} {base : Heap}
theorem ok_lleak (T : Tx K mg) : Ok P w K mg base CX0 2 dLawLeak ["_law_cell_here", "_law_people_here"] (spLLeak K) := by
  have S1 := ok_draws (P := P) (w := w) (base := base) T
  have S2 := ok_llot (P := P) (w := w) (base := base) T
  refine Ok.mk0 T _ ixLawLeak scLLeak (fun _ _ _ _ _ _ us hl => match us, hl with | [_, _], _ => rfl) (fun vs H Q E h => ?_) (fun f cdv A outer st H vs Q E hr h => ?_)
  · obtain ⟨c, p, ps, rfl, _⟩ := h
    rfl
  · obtain ⟨c, p, ps, rfl, hp, ok, k⟩ := h
    refine ⟨_, pss_cons (ps_set (i := 2) scLLeak.nd rfl (.inl rfl) (pe_callB call_len (by rfl) T.f_len (by decide +kernel) (pa_cons (pv 1) pa_nil)))
      (pss_cons (ps_set (i := 3) scLLeak.nd rfl (.inl rfl) (pc S1 hr (by decide) T.g__law_draws pass0 (pa_cons (pv 0) (pa_cons (pe_op op_add (pe_op op_mul pe_int (pv 2)) pe_int) pa_nil))))
      (pss_cons (ps_set (i := 4) scLLeak.nd rfl (.inl rfl) (pe_ix ix_list (pe_lst (pa_cons pe_str (pa_cons pe_str (pa_cons pe_str (pa_cons pe_str (pa_cons pe_str (pa_cons pe_str pa_nil))))))) (pe_op op_mod (pe_callTy call_int1 (by rfl) T.f_int (by decide +kernel) (pa_cons (pe_ix ix_list (pv 3) pe_int (fun _ _ => rfl)) pa_nil)) pe_int) (fun _ _ => rfl)))
      (pss_cons (ps_set (i := 5) scLLeak.nd rfl (.inl rfl) (pe_op op_mod (pe_callTy call_int1 (by rfl) T.f_int (by decide +kernel) (pa_cons (pe_ix ix_list (pv 3) pe_int (fun _ _ => rfl)) pa_nil)) (pv 2)))
      (pss_cons (ps_set (i := 6) scLLeak.nd rfl (.inl rfl) (pe_op op_mod (pe_callTy call_int1 (by rfl) T.f_int (by decide +kernel) (pa_cons (pe_op op_add (pe_op op_add (pv 5) pe_int) (pe_op op_mod (pe_callTy call_int1 (by rfl) T.f_int (by decide +kernel) (pa_cons (pe_ix ix_list (pv 3) pe_int (fun _ _ => rfl)) pa_nil)) (pe_op op_sub (pv 2) pe_int))) pa_nil)) (pv 2)))
      (pss_cons (ps_set (i := 7) scLLeak.nd rfl (.inl rfl) (pc S2 hr (by decide) T.g__law_lot pass0 (pa_cons (pe_slice sl_list (pv 3) (po_some pe_int) (po_some (pe_op op_add pe_int (pv 2)))) (pa_cons (pv 1) (pa_cons (pe_op op_add pe_int (pe_op op_mod (pe_callTy call_int1 (by rfl) T.f_int (by decide +kernel) (pa_cons (pe_ix ix_list (pv 3) pe_int (fun _ _ => rfl)) pa_nil)) pe_int)) pa_nil)))))
      (pss_cons (ps_set (i := 8) scLLeak.nd rfl (.inl rfl) (pc S2 hr (by decide) T.g__law_lot pass0 (pa_cons (pe_slice sl_list (pv 3) (po_some (pe_op op_add pe_int (pv 2))) po_none) (pa_cons (pv 1) (pa_cons (pe_op op_add pe_int (pe_op op_mod (pe_callTy call_int1 (by rfl) T.f_int (by decide +kernel) (pa_cons (pe_op op_fdiv (pe_ix ix_list (pv 3) pe_int (fun _ _ => rfl)) pe_int) pa_nil)) pe_int)) pa_nil)))))
      (pss_cons (ps_if (PW.pt (pw_or (pt_cmpR op_eq (pv 4) pe_str (nomark _)) (pw_or1 (pt_cmpR op_eq (pv 4) pe_str (nomark _)))))
        (pss_one (ps_ret (pe_tup (pa_cons (pv 4) (pa_cons (pe_ix ix_list (pv 1) (pv 5) (fun _ _ => rfl)) (pa_cons (pe_ix ix_list (pv 1) (pv 6) (fun _ _ => rfl)) pa_nil)))))) pss_nil)
      (pss_cons (ps_if (PW.pt (pw_or (pt_cmpR op_eq (pv 4) pe_str (nomark _)) (pw_or1 (pt_cmpR op_eq (pv 4) pe_str (nomark _)))))
        (pss_one (ps_ret (pe_tup (pa_cons (pv 4) (pa_cons (pe_ix ix_list (pv 1) (pv 5) (fun _ _ => rfl)) (pa_cons (pv 8) pa_nil)))))) pss_nil)
      (pss_one (ps_ret (pe_tup (pa_cons (pv 4) (pa_cons (pv 7) (pa_cons (pv 8) pa_nil)))))))))))))), ?_⟩
    have n24 := ok.hi
    have n2 := ok.lo
    obtain ⟨n, hn⟩ : ∃ n, ps.length = n := ⟨_, rfl⟩
    refine ⟨_, rfl, _, ps.length, rfl, len_go (SqL.of hp), ?_⟩
    rw [hn]
    have e1 : (2 : Int) * (n : Int) + 4 = ((2 * n + 4 : Nat) : Int) := by omega
    refine ⟨_, rfl, _, rfl, _, _, rfl, rfl, .inl ⟨by decide, by decide⟩, _, _, rfl, rfl, c, 2 * n + 4, by show [V.int c, V.int ((2 : Int) * (n : Int) + 4)] = _; rw [e1], by omega, fun H1 l ds s1 _ hl len dok => ?_⟩
    have i0 : 0 < ds.length := by omega
    have i1 : 1 < ds.length := by omega
    have i2 : 2 < ds.length := by omega
    have i3 : 3 < ds.length := by omega
    have b0 := dok _ (List.getElem_mem i0)
    have b1 := dok _ (List.getElem_mem i1)
    have b2 := dok _ (List.getElem_mem i2)
    have b3 := dok _ (List.getElem_mem i3)
    refine ⟨by show 6 ≤ sizeLine; decide, fun t ht => ?_⟩
    have s2 := Same.new' (o := .lst [V.str "not", V.str "this", V.str "one", V.str "from", V.str "lot", V.str "never"]) s1 ht
    have hl2 : (upd H1 t (.lst [V.str "not", V.str "this", V.str "one", V.str "from", V.str "lot", V.str "never"])) l = some (.lst (ds.map V.int)) := Same.new ht _ _ hl
    have tw : (upd H1 t (.lst [V.str "not", V.str "this", V.str "one", V.str "from", V.str "lot", V.str "never"])) t = some (.lst (wordL.map V.str)) := upd_same
    refine ⟨_, rfl, l, _, (0 : Nat), _, rfl, rfl, SqL.of hl2, atI_ints i0, .inl ⟨_, rfl, _, _, rfl, rfl, by show (0 : Int) < 6; decide, ?_⟩⟩
    obtain ⟨wn, hw, hwl⟩ : ∃ wn : Nat, ds[0] % 6 = (wn : Int) ∧ wn < 6 := ⟨(ds[0] % 6).toNat, by omega, by omega⟩
    have wl : wn < wordL.length := hwl
    refine ⟨t, _, _, _, rfl, rfl, SqL.of tw, by rw [hw]; exact atI_strs wl, ?_⟩
    have hw6 : wordL[wn] = "not" ∨ wordL[wn] = "this" ∨ wordL[wn] = "one" ∨ wordL[wn] = "from" ∨ wordL[wn] = "lot" ∨ wordL[wn] = "never" := by
      have : wn = 0 ∨ wn = 1 ∨ wn = 2 ∨ wn = 3 ∨ wn = 4 ∨ wn = 5 := by omega
      rcases this with rfl | rfl | rfl | rfl | rfl | rfl
      · exact .inl rfl
      · exact .inr (.inl rfl)
      · exact .inr (.inr (.inl rfl))
      · exact .inr (.inr (.inr (.inl rfl)))
      · exact .inr (.inr (.inr (.inr (.inl rfl))))
      · exact .inr (.inr (.inr (.inr (.inr rfl))))
    generalize wordL[wn] = wd at hw6 ⊢
    generalize upd H1 t (.lst [V.str "not", V.str "this", V.str "one", V.str "from", V.str "lot", V.str "never"]) = H2 at s2 hl2 ⊢
    clear tw
    have n0 : (0 : Int) < (n : Int) := by omega
    have n1 : (0 : Int) < (n : Int) - 1 := by omega
    -- a
    refine ⟨_, rfl, l, _, (1 : Nat), _, rfl, rfl, SqL.of hl2, atI_ints i1, .inl ⟨_, rfl, _, rfl, _, _, rfl, rfl, n0, ?_⟩⟩
    have q0 := Int.emod_nonneg ds[1] (show (n : Int) ≠ 0 by omega)
    have q1 := Int.emod_lt_of_pos ds[1] n0
    obtain ⟨a, ha⟩ : ∃ a : Nat, ds[1] % (n : Int) = (a : Int) := ⟨(ds[1] % (n : Int)).toNat, by omega⟩
    have al : a < ps.length := by omega
    dsimp only
    rw [ha]
    -- b
    refine ⟨_, rfl, _, _, rfl, rfl, _, rfl, l, _, (2 : Nat), _, rfl, rfl, SqL.of hl2, atI_ints i2, .inl ⟨_, rfl, _, rfl, _, _, rfl, rfl, _, _, rfl, rfl, n1, _, _, rfl, rfl, .inl ⟨_, rfl, _, rfl, _, _, rfl, rfl, n0, ?_⟩⟩⟩
    have r0 := Int.emod_nonneg ds[2] (show (n : Int) - 1 ≠ 0 by omega)
    have r1 := Int.emod_lt_of_pos ds[2] n1
    have t0 := Int.emod_nonneg ((a : Int) + (1 : Int) + ds[2] % ((n : Int) - 1)) (show (n : Int) ≠ 0 by omega)
    have t1 := Int.emod_lt_of_pos ((a : Int) + (1 : Int) + ds[2] % ((n : Int) - 1)) n0
    have ne : ((a : Int) + (1 : Int) + ds[2] % ((n : Int) - 1)) % (n : Int) ≠ (a : Int) := by
      generalize ds[2] % ((n : Int) - 1) = r at r0 r1
      by_cases q : (a : Int) + 1 + r < (n : Int)
      · rw [Int.emod_eq_of_lt (by omega) q]
        omega
      · rw [show (a : Int) + (1 : Int) + r = ((a : Int) + 1 + r - (n : Int)) + (n : Int) by omega, Int.add_emod_right, Int.emod_eq_of_lt (by omega) (by omega)]
        omega
    obtain ⟨b, hb⟩ : ∃ b : Nat, ((a : Int) + (1 : Int) + ds[2] % ((n : Int) - 1)) % (n : Int) = (b : Int) := ⟨(((a : Int) + (1 : Int) + ds[2] % ((n : Int) - 1)) % (n : Int)).toNat, by omega⟩
    have bl : b < ps.length := by omega
    have abne : b ≠ a := by omega
    dsimp only
    rw [hb]
    have pab : ps[a] ≠ ps[b] := fun e => abne ((List.getElem_inj ok.nd).mp e).symm
    have ma : ps[a] ∈ ps := List.getElem_mem al
    have mb : ps[b] ∈ ps := List.getElem_mem bl
    -- the lots
    have e4 : (4 : Int) = ((4 : Nat) : Int) := rfl
    have e5 : (4 : Int) + (n : Int) = ((4 + n : Nat) : Int) := by omega
    have lm : (ds.map V.int).length = 2 * n + 4 := by rw [List.length_map]; exact len
    refine ⟨_, rfl, _, rfl, _, rfl, _, _, rfl, rfl, _, rfl, l, _, rfl, SqL.of hl2, fun a1 h1 => ?_⟩
    rw [e5, show cutV (ds.map V.int) (some (4 : Int)) (some ((4 + n : Nat) : Int)) = ((ds.drop 4).take n).map V.int from by rw [e4, cutV_mid (by omega) (by omega), show 4 + n - 4 = n by omega, List.map_take, List.map_drop]]
    have s3 := Same.new' (o := .lst (((ds.drop 4).take n).map V.int)) s2 h1
    have l3 : (upd H2 a1 (.lst (((ds.drop 4).take n).map V.int))) l = some (.lst (ds.map V.int)) := Same.new h1 _ _ hl2
    refine ⟨_, rfl, _, rfl, l, _, (3 : Nat), _, rfl, rfl, SqL.of l3, atI_ints i3, .inl ⟨_, rfl, _, _, rfl, rfl, by show (0 : Int) < 5; decide, _, _, rfl, rfl, ?_⟩⟩
    refine ⟨a1, p, _, (ds.drop 4).take n, ps, rfl, upd_same, s3 _ _ hp, ok, by rw [List.length_take, List.length_drop]; omega, by rw [List.length_take, List.length_drop]; omega, fun H4 g xs s4 hg lg => ?_⟩
    have s5 := s3.trans s4
    have l5 := s4 _ _ l3
    refine ⟨_, rfl, _, rfl, _, _, rfl, rfl, _, rfl, l, _, rfl, SqL.of l5, fun a2 h2 => ?_⟩
    rw [e5, show cutV (ds.map V.int) (some ((4 + n : Nat) : Int)) none = (ds.drop (4 + n)).map V.int from by rw [cutV_from (by omega), List.map_drop]]
    have s6 := Same.new' (o := .lst ((ds.drop (4 + n)).map V.int)) s5 h2
    have l6 : (upd H4 a2 (.lst ((ds.drop (4 + n)).map V.int))) l = some (.lst (ds.map V.int)) := Same.new h2 _ _ l5
    refine ⟨_, rfl, _, rfl, l, _, (3 : Nat), _, rfl, rfl, SqL.of l6, atI_ints i3, _, _, rfl, rfl, ⟨by decide, by decide⟩, .inl ⟨_, rfl, _, _, rfl, rfl, by show (0 : Int) < 5; decide, _, _, rfl, rfl, ?_⟩⟩
    refine ⟨a2, p, _, ds.drop (4 + n), ps, rfl, upd_same, s6 _ _ hp, ok, by rw [List.length_drop]; omega, by rw [List.length_drop]; omega, fun H7 u ys s7 hu' lu => ?_⟩
    have s8 := s6.trans s7
    have hg7 : H7 g = some (.tup (xs.map V.str)) := s7 _ _ (Same.new h2 _ _ hg)
    have hp7 := s8 _ _ hp
    have three : (3 : Nat) ≤ sizeLine := by decide
    rcases hw6 with rfl | rfl | rfl | rfl | rfl | rfl
    · refine ⟨_, rfl, rfl, _, rfl, ye_ rfl (iteT ?_)⟩
      refine ⟨_, rfl, _, rfl, _, rfl, p, _, _, _, rfl, rfl, SqL.of hp7, atI_strs al, _, rfl, _, rfl, p, _, _, _, rfl, rfl, SqL.of hp7, atI_strs bl, three, fun z hz => ?_⟩
      exact k _ z (.no ps[a] ps[b]) (Same.new' s8 hz) ⟨_, _, SqT.of upd_same, rfl, rfl⟩ ⟨pab, ma, mb⟩
    · refine ⟨_, rfl, rfl, _, rfl, no_ (by decide +kernel) ⟨_, rfl, rfl, _, rfl, ye_ rfl ?_⟩⟩
      refine ⟨_, rfl, _, rfl, _, rfl, p, _, _, _, rfl, rfl, SqL.of hp7, atI_strs al, _, rfl, _, rfl, p, _, _, _, rfl, rfl, SqL.of hp7, atI_strs bl, three, fun z hz => ?_⟩
      exact k _ z (.this ps[a] ps[b]) (Same.new' s8 hz) ⟨_, _, SqT.of upd_same, rfl, rfl⟩ ⟨pab, ma, mb⟩
    · refine ⟨_, rfl, rfl, _, rfl, no_ (by decide +kernel) ⟨_, rfl, rfl, _, rfl, no_ (by decide +kernel) ?_⟩⟩
      refine ⟨_, rfl, rfl, _, rfl, ye_ rfl (iteT ?_)⟩
      refine ⟨_, rfl, _, rfl, _, rfl, p, _, _, _, rfl, rfl, SqL.of hp7, atI_strs al, _, rfl, three, fun z hz => ?_⟩
      exact k _ z (.one ps[a] ys) (Same.new' s8 hz) ⟨_, _, SqT.of upd_same, rfl, ⟨u, rfl, SqT.of (Same.new hz _ _ hu')⟩⟩ ⟨ma, lu⟩
    · refine ⟨_, rfl, rfl, _, rfl, no_ (by decide +kernel) ⟨_, rfl, rfl, _, rfl, no_ (by decide +kernel) ?_⟩⟩
      refine ⟨_, rfl, rfl, _, rfl, no_ (by decide +kernel) ⟨_, rfl, rfl, _, rfl, ye_ rfl ?_⟩⟩
      refine ⟨_, rfl, _, rfl, _, rfl, p, _, _, _, rfl, rfl, SqL.of hp7, atI_strs al, _, rfl, three, fun z hz => ?_⟩
      exact k _ z (.frm ps[a] ys) (Same.new' s8 hz) ⟨_, _, SqT.of upd_same, rfl, ⟨u, rfl, SqT.of (Same.new hz _ _ hu')⟩⟩ ⟨ma, lu⟩
    · refine ⟨_, rfl, rfl, _, rfl, no_ (by decide +kernel) ⟨_, rfl, rfl, _, rfl, no_ (by decide +kernel) ?_⟩⟩
      refine ⟨_, rfl, rfl, _, rfl, no_ (by decide +kernel) ⟨_, rfl, rfl, _, rfl, no_ (by decide +kernel) ?_⟩⟩
      refine ⟨_, rfl, _, rfl, _, rfl, three, fun z hz => ?_⟩
      exact k _ z (.lot xs ys) (Same.new' s8 hz) ⟨_, _, SqT.of upd_same, ⟨g, rfl, SqT.of (Same.new hz _ _ hg7)⟩, ⟨u, rfl, SqT.of (Same.new hz _ _ hu')⟩⟩ ⟨lg, lu⟩
    · refine ⟨_, rfl, rfl, _, rfl, no_ (by decide +kernel) ⟨_, rfl, rfl, _, rfl, no_ (by decide +kernel) ?_⟩⟩
      refine ⟨_, rfl, rfl, _, rfl, no_ (by decide +kernel) ⟨_, rfl, rfl, _, rfl, no_ (by decide +kernel) ?_⟩⟩
      refine ⟨_, rfl, _, rfl, _, rfl, three, fun z hz => ?_⟩
      exact k _ z (.nev xs ys) (Same.new' s8 hz) ⟨_, _, SqT.of upd_same, ⟨g, rfl, SqT.of (Same.new hz _ _ hg7)⟩, ⟨u, rfl, SqT.of (Same.new hz _ _ hu')⟩⟩ ⟨lg, lu⟩
end
end GF

/- LMend -/
set_option Elab.async false
set_option linter.all false
set_option maxRecDepth 100000
set_option maxHeartbeats 4000000
namespace GF
open PySem PySem.Spec PyProof.Rows L2 GR
theorem LkAt.tup {K : PySem.W.Frag} {H : Hp} {t : Addr} {k : Lk} (h : LkAt K H t k) : ∃ L R, SqT K H t [.str k.wd, L, R] := ⟨h.choose, h.choose_spec.choose, h.choose_spec.choose_spec.1⟩
theorem cat_lot {K : PySem.W.Frag} {H : Hp} {a b : Addr} {xs ys : List V} {Q : VK} (ha : SqT K H a xs) (hb : SqT K H b ys) (ne : xs ≠ []) (few : xs.length + ys.length ≤ 1000) (q : ∀ H' r, Same H H' → SqT K H' r (xs ++ ys) → Q (.ref r) H') : rCatA K (.ref a) (.ref b) H Q := by
  refine ⟨a, b, xs, ys, rfl, rfl, ha, hb, sz1000' (by omega), fun e => absurd e ne, fun _ e => ?_, fun _ _ p hp => q _ p (Same.new hp) (SqT.of upd_same)⟩
  refine q H a (Same.refl H) ?_
  rw [e, List.append_nil]
  exact ha
theorem LotOk.add {ps xs ys : List Str} (h : LotOk ps xs) (n : ys.Nodup) (d : ∀ y, y ∈ ys → y ∉ xs) (s : ∀ y, y ∈ ys → y ∈ ps) : LotOk ps (xs ++ ys) := by
  refine ⟨fun e => h.1 (List.append_eq_nil_iff.mp e).1, List.nodup_append.mpr ⟨h.2.1, n, fun a ha b hb e => d b hb (e ▸ ha)⟩, fun x hx => ?_⟩
  rcases List.mem_append.mp hx with q | q
  · exact h.2.2 x q
  · exact s x q
theorem LotOk.len {ps xs : List Str} (h : LotOk ps xs) (ok : PeopleOk ps) : xs.length ≤ 24 := Nat.le_trans (len_le_of_sub h.2.1 h.2.2) ok.hi
def spKept (K : PySem.W.Frag) : Sp := fun vs H Q _ => ∃ (t d : Addr) (k : Lk) (es : List (Str × Str)), vs = [.ref t, .ref d] ∧ LkAt K H t k ∧ H d = some (dS es) ∧ (keys es).Nodup ∧ ∀ H' b, Same H H' → Q (.bl b) H'
abbrev nKept : List Str := ["_law_leak_here", "_law_takers", "_law_a"]
theorem scKept : FnScope nKept ["_law_leak_here", "_law_takers"] dLawKept.scope := ⟨rfl, rfl, rfl, by decide +kernel, rfl, by decide +kernel, by decide +kernel⟩
def spMended (K : PySem.W.Frag) : Sp := fun vs H Q _ => ∃ (t d : Addr) (k : Lk) (es : List (Str × Str)) (ps : List Str), vs = [.ref t, .ref d] ∧ LkAt K H t k ∧ LkOk ps k ∧ H d = some (dS es) ∧ HidOk ps es ∧ PeopleOk ps ∧
  (∀ H', Same H H' → Q .non H') ∧ ∀ H' t' k', Same H H' → LkAt K H' t' k' → LkOk ps k' → Q (.ref t') H'
abbrev nMended : List Str := ["_law_leak_here", "_law_hidden_here", "_law_more", "_law_b", "_law_a", "_law_held", "_law_takers"]
theorem scMended : FnScope nMended ["_law_leak_here", "_law_hidden_here"] dLawMended.scope := ⟨rfl, rfl, rfl, by decide +kernel, rfl, by decide +kernel, by decide +kernel⟩
section
variable {P : Program} {w : World} {K : PySem.W.Frag} {mg : Str → Option Value} {base : Heap}
theorem ok_llets (T : Tx K mg) : Ok P w K mg base CX0 1 dLawLets ["_law_leak_here", "_law_a", "_law_b"] (spLets K) := by
  refine Ok.mk0 T _ ixLawLets scLawLets (fun _ _ _ _ _ _ us hl => match us, hl with | [_, _, _], _ => rfl) (fun vs H Q E h => ?_) (fun f cdv A outer st H vs Q E hr h => ?_)
  · obtain ⟨t, k, g, u, rfl, _⟩ := h
    rfl
  · obtain ⟨t, k, g, u, rfl, ⟨L, R, h1, h2, h3⟩, kk⟩ := h
    refine ⟨_, pss_cons (ps_if (pt_cmpR op_eq (pe_ix ix_tup (pv 0) pe_int (fun _ _ => rfl)) pe_str (nomark _)) (pss_one (ps_ret (pe_not (pe_and (pe_cmpR op_eq (pv 1) (pe_ix ix_tup (pv 0) pe_int (fun _ _ => rfl)) (nomark _)) (pe_one (pe_cmpR op_eq (pv 2) (pe_ix ix_tup (pv 0) pe_int (fun _ _ => rfl)) (nomark _))))))) pss_nil)
      (pss_cons (ps_if (pt_cmpR op_eq (pe_ix ix_tup (pv 0) pe_int (fun _ _ => rfl)) pe_str (nomark _))
        (pss_cons (ps_if (pt_cmpR op_eq (pv 1) (pe_ix ix_tup (pv 0) pe_int (fun _ _ => rfl)) (nomark _)) (pss_one (ps_ret (pe_cmpR op_eq (pv 2) (pe_ix ix_tup (pv 0) pe_int (fun _ _ => rfl)) (nomark _)))) pss_nil)
        (pss_one (ps_ret (pe_cmpR op_ne (pv 2) (pe_ix ix_tup (pv 0) pe_int (fun _ _ => rfl)) (nomark _))))) pss_nil)
      (pss_cons (ps_if (pt_cmpR op_eq (pe_ix ix_tup (pv 0) pe_int (fun _ _ => rfl)) pe_str (nomark _)) (pss_one (ps_ret (pe_or (pe_cmpR op_ne (pv 1) (pe_ix ix_tup (pv 0) pe_int (fun _ _ => rfl)) (nomark _)) (pe_one (pe_cmpR op_in_seq (pv 2) (pe_ix ix_tup (pv 0) pe_int (fun _ _ => rfl)) rfl))))) pss_nil)
      (pss_cons (ps_if (pt_cmpR op_eq (pe_ix ix_tup (pv 0) pe_int (fun _ _ => rfl)) pe_str (nomark _)) (pss_one (ps_ret (pe_or (pe_cmpR op_ne (pv 2) (pe_ix ix_tup (pv 0) pe_int (fun _ _ => rfl)) (nomark _)) (pe_one (pe_cmpR op_in_seq (pv 1) (pe_ix ix_tup (pv 0) pe_int (fun _ _ => rfl)) rfl))))) pss_nil)
      (pss_cons (ps_if (pt_cmpR op_eq (pe_ix ix_tup (pv 0) pe_int (fun _ _ => rfl)) pe_str (nomark _)) (pss_one (ps_ret (pe_or (pe_cmpR op_notIn_seq (pv 1) (pe_ix ix_tup (pv 0) pe_int (fun _ _ => rfl)) rfl) (pe_one (pe_cmpR op_in_seq (pv 2) (pe_ix ix_tup (pv 0) pe_int (fun _ _ => rfl)) rfl))))) pss_nil)
      (pss_one (ps_ret (pe_not (pe_and (pe_cmpR op_in_seq (pv 1) (pe_ix ix_tup (pv 0) pe_int (fun _ _ => rfl)) rfl) (pe_one (pe_cmpR op_in_seq (pv 2) (pe_ix ix_tup (pv 0) pe_int (fun _ _ => rfl)) rfl)))))))))), ?_⟩
    cases k with
    | no a b =>
      cases h2; cases h3
      refine ⟨_, rfl, t, _, 0, _, rfl, rfl, h1, rfl, rfl, _, rfl, ye_ rfl ?_⟩
      have kk : Q (.bl (!decide (g = a) || !decide (u = b))) H := kk
      refine ⟨_, rfl, _, rfl, t, _, 1, _, rfl, rfl, h1, rfl, eq_strs ⟨_, rfl, ?_⟩⟩
      cases c : decide (g = a) with
      | true =>
        rw [c] at kk
        exact iteT ⟨_, rfl, _, rfl, t, _, 2, _, rfl, rfl, h1, rfl, eq_strs ⟨_, rfl, kk⟩⟩
      | false =>
        rw [c] at kk
        exact iteF ⟨_, rfl, kk⟩
    | this a b =>
      cases h2; cases h3
      refine ⟨_, rfl, t, _, 0, _, rfl, rfl, h1, rfl, rfl, _, rfl, no_ (by dsimp only [Lk.wd]; decide +kernel) ?_⟩
      refine ⟨_, rfl, t, _, 0, _, rfl, rfl, h1, rfl, rfl, _, rfl, ye_ rfl ?_⟩
      have kk : Q (.bl (decide (g = a) == decide (u = b))) H := kk
      refine ⟨_, rfl, _, rfl, t, _, 1, _, rfl, rfl, h1, rfl, eq_strs ⟨_, rfl, ?_⟩⟩
      cases c : decide (g = a) with
      | true =>
        rw [c] at kk
        refine iteT ⟨_, rfl, _, rfl, t, _, 2, _, rfl, rfl, h1, rfl, eq_strs ?_⟩
        have e : (true == decide (u = b)) = decide (u = b) := by cases decide (u = b) <;> rfl
        rw [e] at kk
        exact kk
      | false =>
        rw [c] at kk
        refine iteF ⟨_, rfl, _, rfl, t, _, 2, _, rfl, rfl, h1, rfl, ne_strs ?_⟩
        have e : (false == decide (u = b)) = !decide (u = b) := by cases decide (u = b) <;> rfl
        rw [e] at kk
        exact kk
    | one a l =>
      cases h2; obtain ⟨pr, rfl, hpr⟩ := h3
      refine ⟨_, rfl, t, _, 0, _, rfl, rfl, h1, rfl, rfl, _, rfl, no_ (by dsimp only [Lk.wd]; decide +kernel) ?_⟩
      refine ⟨_, rfl, t, _, 0, _, rfl, rfl, h1, rfl, rfl, _, rfl, no_ (by dsimp only [Lk.wd]; decide +kernel) ?_⟩
      refine ⟨_, rfl, t, _, 0, _, rfl, rfl, h1, rfl, rfl, _, rfl, ye_ rfl ?_⟩
      exact ⟨_, rfl, _, rfl, t, _, 1, _, rfl, rfl, h1, rfl, ne_strs ⟨_, rfl, or_if (F := fun z => Q (.bl z) H) kk fun hd => ⟨_, rfl, _, rfl, t, _, 2, _, rfl, rfl, h1, rfl, in_strs (.inr hpr) hd⟩⟩⟩
    | frm a l =>
      cases h2; obtain ⟨pr, rfl, hpr⟩ := h3
      refine ⟨_, rfl, t, _, 0, _, rfl, rfl, h1, rfl, rfl, _, rfl, no_ (by dsimp only [Lk.wd]; decide +kernel) ?_⟩
      refine ⟨_, rfl, t, _, 0, _, rfl, rfl, h1, rfl, rfl, _, rfl, no_ (by dsimp only [Lk.wd]; decide +kernel) ?_⟩
      refine ⟨_, rfl, t, _, 0, _, rfl, rfl, h1, rfl, rfl, _, rfl, no_ (by dsimp only [Lk.wd]; decide +kernel) ?_⟩
      refine ⟨_, rfl, t, _, 0, _, rfl, rfl, h1, rfl, rfl, _, rfl, ye_ rfl ?_⟩
      exact ⟨_, rfl, _, rfl, t, _, 1, _, rfl, rfl, h1, rfl, ne_strs ⟨_, rfl, or_if (F := fun z => Q (.bl z) H) kk fun hd => ⟨_, rfl, _, rfl, t, _, 2, _, rfl, rfl, h1, rfl, in_strs (.inr hpr) hd⟩⟩⟩
    | lot l m =>
      obtain ⟨pl, rfl, hpl⟩ := h2; obtain ⟨pr, rfl, hpr⟩ := h3
      refine ⟨_, rfl, t, _, 0, _, rfl, rfl, h1, rfl, rfl, _, rfl, no_ (by dsimp only [Lk.wd]; decide +kernel) ?_⟩
      refine ⟨_, rfl, t, _, 0, _, rfl, rfl, h1, rfl, rfl, _, rfl, no_ (by dsimp only [Lk.wd]; decide +kernel) ?_⟩
      refine ⟨_, rfl, t, _, 0, _, rfl, rfl, h1, rfl, rfl, _, rfl, no_ (by dsimp only [Lk.wd]; decide +kernel) ?_⟩
      refine ⟨_, rfl, t, _, 0, _, rfl, rfl, h1, rfl, rfl, _, rfl, no_ (by dsimp only [Lk.wd]; decide +kernel) ?_⟩
      refine ⟨_, rfl, t, _, 0, _, rfl, rfl, h1, rfl, rfl, _, rfl, ye_ rfl ?_⟩
      exact ⟨_, rfl, _, rfl, t, _, 1, _, rfl, rfl, h1, rfl, nin_strs (.inr hpl) ⟨_, rfl, or_if (F := fun z => Q (.bl z) H) kk fun hd => ⟨_, rfl, _, rfl, t, _, 2, _, rfl, rfl, h1, rfl, in_strs (.inr hpr) hd⟩⟩⟩
    | nev l m =>
      obtain ⟨pl, rfl, hpl⟩ := h2; obtain ⟨pr, rfl, hpr⟩ := h3
      refine ⟨_, rfl, t, _, 0, _, rfl, rfl, h1, rfl, rfl, _, rfl, no_ (by dsimp only [Lk.wd]; decide +kernel) ?_⟩
      refine ⟨_, rfl, t, _, 0, _, rfl, rfl, h1, rfl, rfl, _, rfl, no_ (by dsimp only [Lk.wd]; decide +kernel) ?_⟩
      refine ⟨_, rfl, t, _, 0, _, rfl, rfl, h1, rfl, rfl, _, rfl, no_ (by dsimp only [Lk.wd]; decide +kernel) ?_⟩
      refine ⟨_, rfl, t, _, 0, _, rfl, rfl, h1, rfl, rfl, _, rfl, no_ (by dsimp only [Lk.wd]; decide +kernel) ?_⟩
      refine ⟨_, rfl, t, _, 0, _, rfl, rfl, h1, rfl, rfl, _, rfl, no_ (by dsimp only [Lk.wd]; decide +kernel) ?_⟩
      have kk : Q (.bl (!decide (g ∈ l) || !decide (u ∈ m))) H := kk
      refine ⟨_, rfl, _, rfl, t, _, 1, _, rfl, rfl, h1, rfl, in_strs (.inr hpl) ⟨_, rfl, ?_⟩⟩
      cases c : decide (g ∈ l) with
      | true =>
        rw [c] at kk
        exact iteT ⟨_, rfl, _, rfl, t, _, 2, _, rfl, rfl, h1, rfl, in_strs (.inr hpr) ⟨_, rfl, kk⟩⟩
      | false =>
        rw [c] at kk
        exact iteF ⟨_, rfl, kk⟩
theorem ok_kept (T : Tx K mg) : Ok P w K mg base CX0 2 dLawKept ["_law_leak_here", "_law_takers"] (spKept K) := by
  have S := ok_llets (P := P) (w := w) (base := base) T
  refine Ok.mk0 T _ ixLawKept scKept (fun _ _ _ _ _ _ us hl => match us, hl with | [_, _], _ => rfl) (fun vs H Q E h => ?_) (fun f cdv A outer st H vs Q E hr h => ?_)
  · obtain ⟨t, d, k, es, rfl, _⟩ := h
    rfl
  · have hu := hu_of hr
    obtain ⟨t, d, k, es, rfl, lk, hd, nd, kk⟩ := h
    refine ⟨_, pss_cons (ps_lock (ps_for PassesOwn.never rfl (pi_keys (pv 1)) (pg_name (i := 2) scKept.nd rfl (.inl rfl))
        (pss_one (ps_if (pt_not (pt_val (pc S hr (by decide) T.g__law_lets pass0 (pa_cons (pv 0) (pa_cons (pv 2) (pa_cons (pe_dget hu (pv 1) (pv 2) (fun _ _ => rfl)) pa_nil)))))) (pss_one (ps_ret pe_bl)) pss_nil))))
      (pss_one (ps_ret pe_bl)), ?_⟩
    refine ⟨d, _, hd, trivial, fun od => ?_⟩
    have frz : (upd H d (.frz od (dS es))) d = some (.frz od (dS es)) := upd_same
    have lk2 := lk.lq (Lq.lock od hd trivial)
    refine ⟨_, rfl, d, od, rfl, .inl ⟨_, frz, for_w Wk.keys (fun i σ H' => H' = upd H d (.frz od (dS es)) ∧ ∃ v, σ = [some (.ref t), some (.ref d), v]) ⟨rfl, none, rfl⟩ (fun i σ H' _ ⟨e, _⟩ => by rw [e]; exact frz) ?_ ?_⟩⟩
    · rintro i y σ H' H'' hi ⟨rfl, v, rfl⟩ ⟨rfl, p, hp, rfl⟩
      have g := gt_of_mem nd (List.mem_of_getElem? hp)
      have q := dget_s (h := V.str) (.inr ⟨od, frz⟩) p.1
      rw [g] at q
      refine ⟨_, rfl, _, rfl, _, rfl, _, rfl, d, _, rfl, q, t, k, p.1, p.2, rfl, lk2, _, rfl, ?_⟩
      cases letB k p.1 p.2 with
      | true => exact iteF ⟨rfl, _, rfl⟩
      | false => exact iteT ⟨frz, kk _ false (Same.unlock hd (Same.refl _))⟩
    · rintro σ H' ⟨rfl, v, rfl⟩
      exact ⟨frz, kk _ true (Same.unlock hd (Same.refl _))⟩
end
end GF

/- LMendB -/
set_option Elab.async false
set_option linter.all false
set_option maxRecDepth 100000
set_option maxHeartbeats 4000000
namespace GF
open PySem PySem.Spec PyProof.Rows L2 GR
/-- the givers who give to b -/
theorem HidOk.get {ps : List Str} {es : List (Str × Str)} (h : HidOk ps es) {x : Str} (hx : x ∈ ps) : ∃ y, gt es x = some y ∧ y ∈ ps ∧ x ≠ y := by
  obtain ⟨y, e⟩ := gt_key_some ((h.ks x).mpr hx)
  exact ⟨y, e, h.at_ x y e⟩
abbrev hf (es : List (Str × Str)) (x : Str) : Str := (gt es x).getD ""
theorem HidOk.hf {ps : List Str} {es : List (Str × Str)} (h : HidOk ps es) {x : Str} (hx : x ∈ ps) : gt es x = some (hf es x) ∧ hf es x ∈ ps ∧ x ≠ hf es x := by
  obtain ⟨y, e, h1, h2⟩ := h.get hx
  have q : GF.hf es x = y := by
    show (gt es x).getD "" = y
    rw [e]
    rfl
  rw [q]
  exact ⟨e, h1, h2⟩
theorem map_nd {l : List Str} {f : Str → Str} (n : l.Nodup) (inj : ∀ x y, x ∈ l → y ∈ l → f x = f y → x = y) : (l.map f).Nodup := by
  induction l with
  | nil => exact List.nodup_nil
  | cons a l ih =>
    obtain ⟨h1, h2⟩ := List.nodup_cons.mp n
    rw [List.map_cons]
    refine List.nodup_cons.mpr ⟨fun m => ?_, ih h2 fun x y hx hy => inj x y (List.mem_cons_of_mem _ hx) (List.mem_cons_of_mem _ hy)⟩
    obtain ⟨y, hy, e⟩ := List.mem_map.mp m
    have := inj y a (List.mem_cons_of_mem _ hy) List.mem_cons_self e
    exact h1 (this ▸ hy)
theorem HidOk.mapped {ps l : List Str} {es : List (Str × Str)} (h : HidOk ps es) (n : l.Nodup) (s : ∀ x, x ∈ l → x ∈ ps) : (l.map (GF.hf es)).Nodup := map_nd n fun x y hx hy e => by
  have a := (h.hf (s x hx)).1
  have b := (h.hf (s y hy)).1
  rw [← e] at b
  exact h.inj x y _ a b
section
variable {P : Program} {w : World} {K : PySem.W.Frag} {mg : Str → Option Value} {base : Heap}
theorem ok_mended (T : Tx K mg) : Ok P w K mg base CX0 1 dLawMended ["_law_leak_here", "_law_hidden_here"] (spMended K) := by
  refine Ok.mk0 T _ ixLawMended scMended (fun _ _ _ _ _ _ us hl => match us, hl with | [_, _], _ => rfl) (fun vs H Q E h => ?_) (fun f cdv A outer st H vs Q E hr h => ?_)
  · obtain ⟨t, d, k, es, ps, rfl, _⟩ := h
    rfl
  · have hu := hu_of hr
    obtain ⟨t, d, k, es, ps, rfl, ⟨L, R, h1, h2, h3⟩, lok, hd, hid, ok, kn, kk⟩ := h
    refine ⟨_, pss_cons (ps_if (pt_cmpR op_eq (pe_ix ix_tup (pv 0) pe_int (fun _ _ => rfl)) pe_str (nomark _))
        (pss_one (ps_ret (pe_tup (pa_cons pe_str (pa_cons (pe_ix ix_tup (pv 0) pe_int (fun _ _ => rfl)) (pa_cons (pe_dget hu (pv 1) (pe_ix ix_tup (pv 0) pe_int (fun _ _ => rfl)) (fun _ _ => rfl)) pa_nil)))))) pss_nil)
      (pss_cons (ps_if (pt_cmpR op_eq (pe_ix ix_tup (pv 0) pe_int (fun _ _ => rfl)) pe_str (nomark _))
        (pss_cons (ps_setLc (i := 2) (own := [("_law_b", 3)]) (g := gName 3) rfl scMended.nd rfl rfl (sw_true rfl rfl rfl rfl) (pi_list (pe_lst (pa_cons (pe_dget hu (pv 1) (pe_ix ix_tup (pv 0) pe_int (fun _ _ => rfl)) (fun _ _ => rfl)) pa_nil))) (blkOk_by (N := nMended) (sc := dLawMended.scope) (by decide +kernel))
          (fun _ _ _ _ _ => pg_name (i := 3) scMended.nd rfl (.inl rfl)) (fun _ _ _ _ _ => pts_one (pt_cmpR (op_ninK (K := K) rfl) (pv 3) (pe_ix (ix_tupK (K := K) rfl) (pv 0) pe_int (fun _ _ => rfl)) rfl)) (fun _ _ _ _ _ => pv 3))
        (pss_one (ps_ret (pe_tup (pa_cons pe_str (pa_cons (pe_ix ix_tup (pv 0) pe_int (fun _ _ => rfl)) (pa_cons (pe_op op_catA (pe_ix ix_tup (pv 0) pe_int (fun _ _ => rfl)) (pe_callTy (T := "tuple") call_tuple_of (by rfl) T.f_tuple (by decide +kernel) (pa_cons (pv 2) pa_nil))) pa_nil))))))) pss_nil)
      (pss_cons (ps_if (pt_cmpR op_eq (pe_ix ix_tup (pv 0) pe_int (fun _ _ => rfl)) pe_str (nomark _))
        (pss_cons (ps_lock (ps_setLc (i := 2) (own := [("_law_a", 4)]) (g := gName 4) rfl scMended.nd rfl rfl (sw_true rfl rfl rfl rfl) (pi_keys (pv 1)) (blkOk_by (N := nMended) (sc := dLawMended.scope) (by decide +kernel))
          (fun _ _ _ _ _ => pg_name (i := 4) scMended.nd rfl (.inl rfl)) (fun _ _ _ _ _ => pts_one (PW.pt (pw_and (pt_cmpR op_eq (pe_dget hu (pv 1) (pv 4) (fun _ _ => rfl)) (pe_ix (ix_tupK (K := K) rfl) (pv 0) pe_int (fun _ _ => rfl)) (nomark _)) (pw_and1 (pt_cmpR (op_ninK (K := K) rfl) (pv 4) (pe_ix (ix_tupK (K := K) rfl) (pv 0) pe_int (fun _ _ => rfl)) rfl))))) (fun _ _ _ _ _ => pv 4)))
        (pss_one (ps_ret (pe_tup (pa_cons pe_str (pa_cons (pe_ix ix_tup (pv 0) pe_int (fun _ _ => rfl)) (pa_cons (pe_op op_catA (pe_ix ix_tup (pv 0) pe_int (fun _ _ => rfl)) (pe_callTy (T := "tuple") call_tuple_of (by rfl) T.f_tuple (by decide +kernel) (pa_cons (pv 2) pa_nil))) pa_nil))))))) pss_nil)
      (pss_cons (ps_if (pt_cmpR op_eq (pe_ix ix_tup (pv 0) pe_int (fun _ _ => rfl)) pe_str (nomark _))
        (pss_cons (ps_setLc (i := 2) (own := [("_law_a", 4)]) (g := gName 4) rfl scMended.nd rfl rfl (sw_true rfl rfl rfl rfl) (pi_tup (pe_ix ix_tup (pv 0) pe_int (fun _ _ => rfl))) (blkOk_by (N := nMended) (sc := dLawMended.scope) (by decide +kernel))
          (fun _ _ _ _ _ => pg_name (i := 4) scMended.nd rfl (.inl rfl)) (fun _ _ _ _ _ => pts_one (pt_cmpR (op_ninK (K := K) rfl) (pe_dget hu (pv 1) (pv 4) (fun _ _ => rfl)) (pe_ix (ix_tupK (K := K) rfl) (pv 0) pe_int (fun _ _ => rfl)) rfl)) (fun _ _ _ _ _ => pe_dget hu (pv 1) (pv 4) (fun _ _ => rfl)))
        (pss_one (ps_ret (pe_tup (pa_cons pe_str (pa_cons (pe_ix ix_tup (pv 0) pe_int (fun _ _ => rfl)) (pa_cons (pe_op op_catA (pe_ix ix_tup (pv 0) pe_int (fun _ _ => rfl)) (pe_callTy (T := "tuple") call_tuple_of (by rfl) T.f_tuple (by decide +kernel) (pa_cons (pv 2) pa_nil))) pa_nil))))))) pss_nil)
      (pss_cons (ps_if (pt_cmpR op_eq (pe_ix ix_tup (pv 0) pe_int (fun _ _ => rfl)) pe_str (nomark _))
        (pss_cons (ps_set (i := 5) scMended.nd rfl (.inr rfl) (pe_lc (own := [("_law_a", 4)]) (g := gName 4) (tt := tYes) rfl scMended.nd (pi_tup (pe_ix ix_tup (pv 0) pe_int (fun _ _ => rfl))) (blkOk_by (N := nMended) (sc := dLawMended.scope) (by decide +kernel))
          (fun _ _ _ _ _ => pg_name (i := 4) scMended.nd rfl (.inl rfl)) (fun _ _ _ _ _ => pts_nil) (fun _ _ _ _ _ => pe_dget hu (pv 1) (pv 4) (fun _ _ => rfl))))
        (pss_cons (ps_setLc (i := 6) (own := [("_law_b", 3)]) (g := gName 3) rfl scMended.nd rfl rfl (sw_true rfl rfl rfl rfl) (pi_tup (pe_ix ix_tup (pv 0) pe_int (fun _ _ => rfl))) (blkOk_by (N := nMended) (sc := dLawMended.scope) (by decide +kernel))
          (fun _ _ _ _ _ => pg_name (i := 3) scMended.nd rfl (.inl rfl)) (fun _ _ _ _ _ => pts_one (pt_cmpR (op_ninK (K := K) rfl) (pv 3) (pv 5) rfl)) (fun _ _ _ _ _ => pv 3))
        (pss_cons (ps_if (pt_cmpR op_eq (pe_callB call_len (by rfl) T.f_len (by decide +kernel) (pa_cons (pv 6) pa_nil)) pe_int (nomark _)) (pss_one (ps_ret pe_non)) pss_nil)
        (pss_one (ps_ret (pe_tup (pa_cons pe_str (pa_cons (pe_ix ix_tup (pv 0) pe_int (fun _ _ => rfl)) (pa_cons (pe_callTy (T := "tuple") call_tuple_of (by rfl) T.f_tuple (by decide +kernel) (pa_cons (pv 6) pa_nil)) pa_nil))))))))) pss_nil)
      (pss_cons (ps_if (pt_cmpR op_eq (pe_dget hu (pv 1) (pe_ix ix_tup (pv 0) pe_int (fun _ _ => rfl)) (fun _ _ => rfl)) (pe_ix ix_tup (pv 0) pe_int (fun _ _ => rfl)) (nomark _)) (pss_one (ps_ret pe_non)) pss_nil)
      (pss_one (ps_ret (pv 0)))))))), ?_⟩
    have three : (3 : Nat) ≤ sizeLine := by decide
    have n24 := ok.hi
    cases k with
    | no a b =>
      cases h2; cases h3
      obtain ⟨ab, ma, mb⟩ := lok
      refine ⟨_, rfl, t, _, 0, _, rfl, rfl, h1, rfl, rfl, _, rfl, no_ (by dsimp only [Lk.wd]; decide +kernel) ?_⟩
      refine ⟨_, rfl, t, _, 0, _, rfl, rfl, h1, rfl, rfl, _, rfl, no_ (by dsimp only [Lk.wd]; decide +kernel) ?_⟩
      refine ⟨_, rfl, t, _, 0, _, rfl, rfl, h1, rfl, rfl, _, rfl, no_ (by dsimp only [Lk.wd]; decide +kernel) ?_⟩
      refine ⟨_, rfl, t, _, 0, _, rfl, rfl, h1, rfl, rfl, _, rfl, no_ (by dsimp only [Lk.wd]; decide +kernel) ?_⟩
      refine ⟨_, rfl, t, _, 0, _, rfl, rfl, h1, rfl, rfl, _, rfl, no_ (by dsimp only [Lk.wd]; decide +kernel) ?_⟩
      have q := dget_s (h := V.str) (.inl hd) a
      rw [(hid.hf ma).1] at q
      refine ⟨_, rfl, _, rfl, t, _, 1, _, rfl, rfl, h1, rfl, d, _, rfl, q, _, rfl, t, _, 2, _, rfl, rfl, h1, rfl, eq_strs ⟨_, rfl, ?_⟩⟩
      by_cases c : hf es a = b
      · rw [decide_eq_true c]
        exact iteT (kn H (Same.refl H))
      · rw [decide_eq_false c]
        exact iteF ⟨_, rfl, kk H t (.no a b) (Same.refl H) ⟨_, _, h1, rfl, rfl⟩ ⟨ab, ma, mb⟩⟩
    | this a b =>
      cases h2; cases h3
      obtain ⟨ab, ma, mb⟩ := lok
      refine ⟨_, rfl, t, _, 0, _, rfl, rfl, h1, rfl, rfl, _, rfl, ye_ rfl ?_⟩
      obtain ⟨g1, g2, g3⟩ := hid.hf ma
      have q := dget_s (h := V.str) (.inl hd) a
      rw [g1] at q
      refine ⟨_, rfl, t, _, 1, _, rfl, rfl, h1, rfl, _, rfl, _, rfl, t, _, 1, _, rfl, rfl, h1, rfl, d, _, rfl, q, three, fun z hz => ?_⟩
      exact kk _ z (.this a (hf es a)) (Same.new hz) ⟨_, _, SqT.of upd_same, rfl, rfl⟩ ⟨g3, ma, g2⟩
    | one a l =>
      cases h2; obtain ⟨pr, rfl, hpr⟩ := h3
      obtain ⟨ma, lok⟩ := lok
      refine ⟨_, rfl, t, _, 0, _, rfl, rfl, h1, rfl, rfl, _, rfl, no_ (by dsimp only [Lk.wd]; decide +kernel) ?_⟩
      refine ⟨_, rfl, t, _, 0, _, rfl, rfl, h1, rfl, rfl, _, rfl, ye_ rfl ?_⟩
      obtain ⟨g1, g2, g3⟩ := hid.hf ma
      have q := dget_s (h := V.str) (.inl hd) a
      rw [g1] at q
      refine ⟨_, rfl, _, rfl, t, _, 1, _, rfl, rfl, h1, rfl, d, _, rfl, q, by show 1 ≤ sizeLine; decide, fun b0 hb0 => ?_⟩
      have s0 : Same H (upd H b0 (.lst [V.str (hf es a)])) := Same.new hb0
      have hb1 : SqL K (upd H b0 (.lst [V.str (hf es a)])) b0 ([hf es a].map V.str) := SqL.of upd_same
      generalize upd H b0 (.lst [V.str (hf es a)]) = H1 at s0 hb1 ⊢
      refine ⟨b0, rfl, ⟨_, hb1⟩, fun D hD => ?_⟩
      refine lco_w (Wk.list (xs := [hf es a].map V.str)) (fun i H' => Same H1 H' ∧ H' D = some (.lst ((([hf es a].take i).filter fun x => decide (x ∉ l)).map V.str))) ⟨Same.new hD, upd_same⟩ (fun i H' _ p => p.1.seq hb1) ?_ ?_
      · rintro i y H2 H2' hi ⟨s2, d2⟩ ⟨rfl, hy⟩
        obtain ⟨x, hx, rfl⟩ := map_get hy
        have h12 := h1.sameT (s0.trans s2)
        refine ⟨rfl, _, rfl, _, rfl, t, _, 2, _, rfl, rfl, h12, rfl, nin_strs (.inr (hpr.sameT (s0.trans s2))) ⟨_, rfl, ?_⟩⟩
        have fs := filter_snoc (p := fun x => decide (x ∉ l)) hx
        by_cases c : x ∈ l
        · rw [decide_eq_true c]
          refine iteF ⟨s2, ?_⟩
          rw [if_neg (by simp [c])] at fs
          rw [fs, List.append_nil]
          exact d2
        · rw [decide_eq_false c]
          refine iteT ⟨_, rfl, _, d2, ?_, Same.mut s2 hD, ?_⟩
          · rw [List.length_map]
            have h1' := List.length_filter_le (fun x => decide (x ∉ l)) ([hf es a].take i)
            rw [List.length_take] at h1'
            simp at h1'
            exact sz1000 (by simp; omega)
          · rw [if_pos (by simp [c])] at fs
            rw [upd_same, fs, List.map_append]
            rfl
      rintro H2 ⟨s2, d2⟩
      rw [List.length_map, List.take_length] at d2
      have s02 := s0.trans s2
      generalize eys : ([hf es a].filter fun x => decide (x ∉ l)) = ys at d2
      have ysub : ∀ y, y ∈ ys → y = hf es a ∧ y ∉ l := fun y hy => by
        rw [← eys] at hy
        obtain ⟨q1, q2⟩ := List.mem_filter.mp hy
        exact ⟨List.mem_singleton.mp q1, of_decide_eq_true q2⟩
      have yn : ys.Nodup := by rw [← eys]; exact (show [hf es a].Nodup by simp).filter _
      have lot := lok.add yn (fun y hy => (ysub y hy).2) fun y hy => by rw [(ysub y hy).1]; exact g2
      refine ⟨_, rfl, t, _, 1, _, rfl, rfl, h1.sameT s02, rfl, _, rfl, t, _, 2, _, rfl, rfl, h1.sameT s02, rfl, _, rfl, D, _, rfl, .inl ⟨SqL.of d2, fun u hu' => ?_⟩⟩
      have s3 := Same.new' (o := .tup (ys.map V.str)) s02 hu'
      refine cat_lot (hpr.sameT s3) (SqT.of upd_same) (fun z => lok.1 (List.map_eq_nil_iff.mp z)) ?_ fun H4 r s4 hr4 => ⟨three, fun z hz => ?_⟩
      · have := lot.len ok
        rw [List.length_append] at this
        rw [List.length_map, List.length_map]
        omega
      · refine kk _ z (.one a (l ++ ys)) (Same.new' (s3.trans s4) hz) ⟨_, _, SqT.of upd_same, rfl, ⟨r, rfl, ?_⟩⟩ ⟨ma, lot⟩
        rw [List.map_append]
        exact hr4.sameT (Same.new hz)
    | frm a l =>
      cases h2; obtain ⟨pr, rfl, hpr⟩ := h3
      obtain ⟨ma, lok⟩ := lok
      refine ⟨_, rfl, t, _, 0, _, rfl, rfl, h1, rfl, rfl, _, rfl, no_ (by dsimp only [Lk.wd]; decide +kernel) ?_⟩
      refine ⟨_, rfl, t, _, 0, _, rfl, rfl, h1, rfl, rfl, _, rfl, no_ (by dsimp only [Lk.wd]; decide +kernel) ?_⟩
      refine ⟨_, rfl, t, _, 0, _, rfl, rfl, h1, rfl, rfl, _, rfl, ye_ rfl ?_⟩
      refine ⟨d, _, hd, trivial, fun od => ?_⟩
      have frz : (upd H d (.frz od (dS es))) d = some (.frz od (dS es)) := upd_same
      have lq := Lq.lock od hd trivial
      have h1f := lq.sqT h1
      have hprf := lq.sqT hpr
      generalize eF : upd H d (.frz od (dS es)) = Hf at frz lq h1f hprf
      refine ⟨_, rfl, d, od, rfl, .inl ⟨_, frz, fun D hD => ?_⟩⟩
      have nD : D ≠ d := fun e => by rw [e, frz] at hD; cases hD
      refine lco_w Wk.keys (fun i H' => ∃ ys : List Str, Same Hf H' ∧ H' D = some (.lst (ys.map V.str)) ∧ ys.Sublist ((keys es).take i) ∧ ∀ y, y ∈ ys → y ∉ l) ⟨[], Same.new hD, upd_same, List.nil_sublist _, by simp⟩ (fun i H' _ ⟨_, s, _⟩ => s _ _ frz) ?_ ?_
      · rintro i y H2 H2' hi ⟨ys, s2, d2, sub2, no2⟩ ⟨rfl, p, hp, rfl⟩
        have g := gt_of_mem hid.nd (List.mem_of_getElem? hp)
        have q := dget_s (h := V.str) (.inr ⟨od, s2 _ _ frz⟩) p.1
        rw [g] at q
        have hk : (keys es)[i]? = some p.1 := by unfold keys; rw [List.getElem?_map, hp]; rfl
        have skip : ys.Sublist ((keys es).take (i + 1)) := by rw [take_snoc hk]; exact sub2.trans (List.sublist_append_left _ _)
        refine ⟨rfl, _, rfl, _, rfl, d, _, rfl, q, _, rfl, t, _, 1, _, rfl, rfl, h1f.sameT s2, rfl, eq_strs ⟨_, rfl, ?_⟩⟩
        by_cases c : p.2 = a
        · rw [decide_eq_true c]
          refine iteT ⟨_, rfl, _, rfl, t, _, 2, _, rfl, rfl, h1f.sameT s2, rfl, nin_strs (.inr (hprf.sameT s2)) ⟨_, rfl, ?_⟩⟩
          by_cases c2 : p.1 ∈ l
          · rw [decide_eq_true c2]
            exact iteF ⟨ys, s2, d2, skip, no2⟩
          · rw [decide_eq_false c2]
            refine iteT ⟨_, rfl, _, d2, ?_, ys ++ [p.1], Same.mut s2 hD, by rw [upd_same, List.map_append]; rfl, by rw [take_snoc hk]; exact sub2.append (List.Sublist.refl _), fun y hy => ?_⟩
            · rw [List.length_map]
              have e1 := sub2.length_le
              rw [List.length_take] at e1
              have e2 : (keys es).length ≤ 24 := Nat.le_trans (len_le_of_sub hid.nd fun x hx => (hid.ks x).mp hx) n24
              exact sz1000 (by omega)
            · rcases List.mem_append.mp hy with q | q
              · exact no2 y q
              · rw [List.mem_singleton.mp q]; exact c2
        · rw [decide_eq_false c]
          exact iteF (iteF ⟨ys, s2, d2, skip, no2⟩)
      rintro H2 ⟨ys, s2, d2, sub2, no2⟩
      have sub3 : ys.Sublist (keys es) := sub2.trans (List.take_sublist _ _)
      refine ⟨s2 _ _ frz, ?_⟩
      have s02 : Same H (upd H2 d (dS es)) := Same.unlock hd (by rw [eF]; exact s2)
      have d3 : (upd H2 d (dS es)) D = some (.lst (ys.map V.str)) := by rw [upd_ne nD]; exact d2
      generalize upd H2 d (dS es) = H3 at s02 d3 ⊢
      have lot := lok.add (hid.nd.sublist sub3) no2 fun y hy => (hid.ks y).mp (sub3.subset hy)
      refine ⟨_, rfl, t, _, 1, _, rfl, rfl, h1.sameT s02, rfl, _, rfl, t, _, 2, _, rfl, rfl, h1.sameT s02, rfl, _, rfl, D, _, rfl, .inl ⟨SqL.of d3, fun u hu' => ?_⟩⟩
      have s3 := Same.new' (o := .tup (ys.map V.str)) s02 hu'
      refine cat_lot (hpr.sameT s3) (SqT.of upd_same) (fun z => lok.1 (List.map_eq_nil_iff.mp z)) ?_ fun H4 r s4 hr4 => ⟨three, fun z hz => ?_⟩
      · have := lot.len ok
        rw [List.length_append] at this
        rw [List.length_map, List.length_map]
        omega
      · refine kk _ z (.frm a (l ++ ys)) (Same.new' (s3.trans s4) hz) ⟨_, _, SqT.of upd_same, rfl, ⟨r, rfl, ?_⟩⟩ ⟨ma, lot⟩
        rw [List.map_append]
        exact hr4.sameT (Same.new hz)
    | lot l m =>
      obtain ⟨pl, rfl, hpl⟩ := h2; obtain ⟨pr, rfl, hpr⟩ := h3
      obtain ⟨lok1, lok2⟩ := lok
      refine ⟨_, rfl, t, _, 0, _, rfl, rfl, h1, rfl, rfl, _, rfl, no_ (by dsimp only [Lk.wd]; decide +kernel) ?_⟩
      refine ⟨_, rfl, t, _, 0, _, rfl, rfl, h1, rfl, rfl, _, rfl, no_ (by dsimp only [Lk.wd]; decide +kernel) ?_⟩
      refine ⟨_, rfl, t, _, 0, _, rfl, rfl, h1, rfl, rfl, _, rfl, no_ (by dsimp only [Lk.wd]; decide +kernel) ?_⟩
      refine ⟨_, rfl, t, _, 0, _, rfl, rfl, h1, rfl, rfl, _, rfl, ye_ rfl ?_⟩
      refine ⟨_, rfl, t, _, 1, _, rfl, rfl, h1, rfl, pl, rfl, ⟨_, hpl⟩, fun D hD => ?_⟩
      refine lco_w (Wk.tup (xs := l.map V.str)) (fun i H' => Same H H' ∧ H' D = some (.lst ((((l.take i).map (hf es)).filter fun x => decide (x ∉ m)).map V.str))) ⟨Same.new hD, upd_same⟩ (fun i H' _ p => hpl.sameT p.1) ?_ ?_
      · rintro i y H2 H2' hi ⟨s2, d2⟩ ⟨rfl, hy⟩
        obtain ⟨x, hx, rfl⟩ := map_get hy
        have q := dget_s (h := V.str) (.inl (s2 _ _ hd)) x
        rw [(hid.hf (lok1.2.2 x (List.mem_of_getElem? hx))).1] at q
        refine ⟨rfl, _, rfl, _, rfl, d, _, rfl, q, _, rfl, t, _, 2, _, rfl, rfl, h1.sameT s2, rfl, nin_strs (.inr (hpr.sameT s2)) ⟨_, rfl, ?_⟩⟩
        by_cases c : hf es x ∈ m
        · rw [decide_eq_true c]
          refine iteF ⟨s2, ?_⟩
          rw [take_snoc hx, List.map_append, List.filter_append]
          simp [c]
          simpa using d2
        · rw [decide_eq_false c]
          refine iteT ⟨_, rfl, _, rfl, d, _, rfl, q, _, d2, ?_, Same.mut s2 hD, ?_⟩
          · rw [List.length_map]
            have h1' := List.length_filter_le (fun x => decide (x ∉ m)) ((l.take i).map (hf es))
            rw [List.length_map, List.length_take] at h1'
            have := lok1.len ok
            exact sz1000 (by omega)
          · rw [upd_same, take_snoc hx, List.map_append, List.filter_append]
            simp [c]
      rintro H2 ⟨s2, d2⟩
      rw [List.length_map, List.take_length] at d2
      generalize eys : ((l.map (hf es)).filter fun x => decide (x ∉ m)) = ys at d2
      have ysub : ∀ y, y ∈ ys → y ∈ ps ∧ y ∉ m := fun y hy => by
        rw [← eys] at hy
        obtain ⟨q1, q2⟩ := List.mem_filter.mp hy
        obtain ⟨x, hx, e⟩ := List.mem_map.mp q1
        exact ⟨by rw [← e]; exact (hid.hf (lok1.2.2 x hx)).2.1, of_decide_eq_true q2⟩
      have yn : ys.Nodup := by rw [← eys]; exact (hid.mapped lok1.2.1 lok1.2.2).filter _
      have lot := lok2.add yn (fun y hy => (ysub y hy).2) fun y hy => (ysub y hy).1
      refine ⟨_, rfl, t, _, 1, _, rfl, rfl, h1.sameT s2, rfl, _, rfl, t, _, 2, _, rfl, rfl, h1.sameT s2, rfl, _, rfl, D, _, rfl, .inl ⟨SqL.of d2, fun u hu' => ?_⟩⟩
      have s3 := Same.new' (o := .tup (ys.map V.str)) s2 hu'
      refine cat_lot (hpr.sameT s3) (SqT.of upd_same) (fun z => lok2.1 (List.map_eq_nil_iff.mp z)) ?_ fun H4 r s4 hr4 => ⟨three, fun z hz => ?_⟩
      · have := lot.len ok
        rw [List.length_append] at this
        rw [List.length_map, List.length_map]
        omega
      · refine kk _ z (.lot l (m ++ ys)) (Same.new' (s3.trans s4) hz) ⟨_, _, SqT.of upd_same, ⟨pl, rfl, hpl.sameT (Same.new' (s3.trans s4) hz)⟩, ⟨r, rfl, ?_⟩⟩ ⟨lok1, lot⟩
        rw [List.map_append]
        exact hr4.sameT (Same.new hz)
    | nev l m =>
      obtain ⟨pl, rfl, hpl⟩ := h2; obtain ⟨pr, rfl, hpr⟩ := h3
      obtain ⟨lok1, lok2⟩ := lok
      refine ⟨_, rfl, t, _, 0, _, rfl, rfl, h1, rfl, rfl, _, rfl, no_ (by dsimp only [Lk.wd]; decide +kernel) ?_⟩
      refine ⟨_, rfl, t, _, 0, _, rfl, rfl, h1, rfl, rfl, _, rfl, no_ (by dsimp only [Lk.wd]; decide +kernel) ?_⟩
      refine ⟨_, rfl, t, _, 0, _, rfl, rfl, h1, rfl, rfl, _, rfl, no_ (by dsimp only [Lk.wd]; decide +kernel) ?_⟩
      refine ⟨_, rfl, t, _, 0, _, rfl, rfl, h1, rfl, rfl, _, rfl, no_ (by dsimp only [Lk.wd]; decide +kernel) ?_⟩
      refine ⟨_, rfl, t, _, 0, _, rfl, rfl, h1, rfl, rfl, _, rfl, ye_ rfl ?_⟩
      refine ⟨_, rfl, t, _, 1, _, rfl, rfl, h1, rfl, pl, rfl, ⟨_, hpl⟩, fun D hD => ?_⟩
      refine lco_w (Wk.tup (xs := l.map V.str)) (fun i H' => Same H H' ∧ H' D = some (.lst (((l.take i).map (hf es)).map V.str))) ⟨Same.new hD, upd_same⟩ (fun i H' _ p => hpl.sameT p.1) ?_ ?_
      · rintro i y H2 H2' hi ⟨s2, d2⟩ ⟨rfl, hy⟩
        obtain ⟨x, hx, rfl⟩ := map_get hy
        have q := dget_s (h := V.str) (.inl (s2 _ _ hd)) x
        rw [(hid.hf (lok1.2.2 x (List.mem_of_getElem? hx))).1] at q
        refine ⟨rfl, yesT ⟨_, rfl, _, rfl, d, _, rfl, q, _, d2, ?_, Same.mut s2 hD, ?_⟩⟩
        · rw [List.length_map, List.length_map, List.length_take]
          have := lok1.len ok
          exact sz1000 (by omega)
        · rw [upd_same, take_snoc hx, List.map_append, List.map_append]
          rfl
      rintro H2 ⟨s2, d2⟩
      refine ⟨_, rfl, t, _, 2, _, rfl, rfl, h1.sameT s2, rfl, pr, rfl, ⟨_, hpr.sameT s2⟩, fun D2 hD2 => ?_⟩
      refine lco_w (Wk.tup (xs := m.map V.str)) (fun i H' => ∃ ys : List Str, Same H2 H' ∧ H' D2 = some (.lst (ys.map V.str)) ∧ ys.Sublist (m.take i)) ⟨[], Same.new hD2, upd_same, List.nil_sublist _⟩ (fun i H' _ ⟨_, s, _⟩ => hpr.sameT (s2.trans s)) ?_ ?_
      · rintro i y H3 H3' hi ⟨ys, s3, d3, sub3⟩ ⟨rfl, hy⟩
        obtain ⟨x, hx, rfl⟩ := map_get hy
        refine ⟨rfl, _, rfl, _, rfl, nin_strs (.inl (SqL.of (s3 _ _ d2))) ⟨_, rfl, ?_⟩⟩
        cases !decide (x ∈ (l.take (l.map V.str).length).map (hf es)) with
        | false => exact iteF ⟨ys, s3, d3, by rw [take_snoc hx]; exact sub3.trans (List.sublist_append_left _ _)⟩
        | true =>
          refine iteT ⟨_, rfl, _, d3, ?_, ys ++ [x], Same.mut s3 hD2, by rw [upd_same, List.map_append]; rfl, by rw [take_snoc hx]; exact sub3.append (List.Sublist.refl _)⟩
          rw [List.length_map]
          have e1 := sub3.length_le
          rw [List.length_take] at e1
          have := lok2.len ok
          exact sz1000 (by omega)
      rintro H3 ⟨ys, s3, d3, sub3⟩
      have sub4 : ys.Sublist m := sub3.trans (List.take_sublist _ _)
      have s13 := s2.trans s3
      refine ⟨_, rfl, _, ys.length, rfl, len_go (SqL.of d3), rfl, _, rfl, ?_⟩
      by_cases e : V.int (ys.length : Int) = V.int 0
      · rw [decide_eq_true e]
        exact iteT (kn H3 s13)
      · rw [decide_eq_false e]
        refine iteF ⟨_, rfl, t, _, 1, _, rfl, rfl, h1.sameT s13, rfl, _, rfl, D2, _, rfl, .inl ⟨SqL.of d3, fun u hu' => ⟨three, fun z hz => ?_⟩⟩⟩
        have lot : LotOk ps ys := ⟨fun q => e (by rw [q]; rfl), lok2.2.1.sublist sub4, fun x hx => lok2.2.2 x (sub4.subset hx)⟩
        refine kk _ z (.nev l ys) (Same.new' (Same.new' s13 hu') hz) ⟨_, _, SqT.of upd_same, ⟨pl, rfl, hpl.sameT (Same.new' (Same.new' s13 hu') hz)⟩, ⟨u, rfl, SqT.of (Same.new hz _ _ upd_same)⟩⟩ ⟨lok1, lot⟩
end
end GF

/- LWorld -/
set_option Elab.async false
set_option linter.all false
set_option maxRecDepth 100000
set_option maxHeartbeats 4000000
namespace GF
open PySem PySem.Spec PyProof.Rows L2 GR
theorem LkAt.lst {K : PySem.W.Frag} {H : Hp} {a D : Addr} {k : Lk} {xs : List V} {o : HO} (lk : LkAt K H a k) (dd : H D = some (.lst xs)) : LkAt K (upd H D o) a k := by
  have st : ∀ {b : Addr} {xs : List V}, SqT K H b xs → SqT K (upd H D o) b xs := fun {b xs} h => by
    rcases h with (h | ⟨o, h⟩) | h
    · exact .inl (.inl (by rw [upd_ne fun z => by rw [z, dd] at h; cases h]; exact h))
    · exact .inl (.inr ⟨o, by rw [upd_ne fun z => by rw [z, dd] at h; cases h]; exact h⟩)
    · exact .inr h
  obtain ⟨L, R, h1, h2, h3⟩ := lk
  have lv : ∀ {l : List Str} {v : V}, LotV K H l v → LotV K (upd H D o) l v := fun h => ⟨h.choose, h.choose_spec.1, st h.choose_spec.2⟩
  refine ⟨L, R, st h1, ?_, ?_⟩
  · cases k <;> first | exact h2 | exact lv h2
  · cases k <;> first | exact h3 | exact lv h3
/-- leaks as they lie -/
def LksAt (K : PySem.W.Frag) (H : Hp) (ps : List Str) (ks : List (Addr × Lk)) : Prop := ∀ q, q ∈ ks → LkAt K H q.1 q.2 ∧ LkOk ps q.2
theorem LksAt.same {K : PySem.W.Frag} {H H' : Hp} {ps : List Str} {ks : List (Addr × Lk)} (h : LksAt K H ps ks) (s : Same H H') : LksAt K H' ps ks := fun q m => ⟨(h q m).1.same s, (h q m).2⟩
theorem LksAt.snoc {K : PySem.W.Frag} {H : Hp} {ps : List Str} {ks : List (Addr × Lk)} {t : Addr} {k : Lk} (h : LksAt K H ps ks) (h1 : LkAt K H t k) (h2 : LkOk ps k) : LksAt K H ps (ks ++ [(t, k)]) := fun q m => by
  rcases List.mem_append.mp m with m | m
  · exact h q m
  · rw [List.mem_singleton.mp m]; exact ⟨h1, h2⟩
/-- a leak that was mended, or none -/
def MendV (K : PySem.W.Frag) (H : Hp) (ps : List Str) (v : V) : Prop := v = .non ∨ ∃ t k, v = .ref t ∧ LkAt K H t k ∧ LkOk ps k
theorem MendV.same {K : PySem.W.Frag} {H H' : Hp} {ps : List Str} {v : V} (h : MendV K H ps v) (s : Same H H') : MendV K H' ps v := h.imp id fun ⟨t, k, a, b, c⟩ => ⟨t, k, a, b.same s, c⟩
theorem LksAt.lst {K : PySem.W.Frag} {H : Hp} {ps : List Str} {ks : List (Addr × Lk)} {D : Addr} {xs : List V} {o : HO} (h : LksAt K H ps ks) (dd : H D = some (.lst xs)) : LksAt K (upd H D o) ps ks := fun q m => ⟨(h q m).1.lst dd, (h q m).2⟩
theorem MendV.lst {K : PySem.W.Frag} {H : Hp} {ps : List Str} {v : V} {D : Addr} {xs : List V} {o : HO} (h : MendV K H ps v) (dd : H D = some (.lst xs)) : MendV K (upd H D o) ps v := h.imp id fun ⟨t, k, a, b, c⟩ => ⟨t, k, a, b.lst dd, c⟩
/-- the world: people, barred pairs, leaks -/
structure WorldAt (K : PySem.W.Frag) (H : Hp) (p l m : Addr) (ps : List Str) (qs : List (Addr × (Str × Str))) (ks : List (Addr × Lk)) : Prop where
  hp : H p = some (.lst (ps.map V.str))
  ok : PeopleOk ps
  hl : H l = some (.lst (refs qs))
  hq : PairsAt H qs
  fewq : qs.length ≤ 576
  bar : BarOk ps (qs.map (·.2))
  hm : H m = some (.lst (refs ks))
  hk : LksAt K H ps ks
  fewk : ks.length ≤ 5
theorem WorldAt.same {K : PySem.W.Frag} {H H' : Hp} {p l m : Addr} {ps : List Str} {qs : List (Addr × (Str × Str))} {ks : List (Addr × Lk)} (h : WorldAt K H p l m ps qs ks) (s : Same H H') : WorldAt K H' p l m ps qs ks :=
  ⟨s _ _ h.hp, h.ok, s _ _ h.hl, h.hq.same s, h.fewq, h.bar, s _ _ h.hm, h.hk.same s, h.fewk⟩
def spWorld (K : PySem.W.Frag) : Sp := fun vs H Q _ => ∃ (sc : Addr) (ns : List Int) (most : Nat), vs = [.ref sc, .int (most : Int), .int 5] ∧ SqL K H sc (ns.map V.int) ∧ ns.length ≤ 63 ∧ 3 ≤ most ∧ most ≤ 24 ∧
  ∀ H' a p l m ps qs ks, Same H H' → H' a = some (.tup [.ref p, .ref l, .ref m]) → WorldAt K H' p l m ps qs ks → Q (.ref a) H'
abbrev nWorld : List Str := ["_law_script", "_law_most", "_law_leaks", "_law_head", "_law_people_here", "_law_closed", "_law_told", "_law_k", "_law_hidden_here", "_law_pair", "_law_leak_here"]
theorem scWorld : FnScope nWorld ["_law_script", "_law_most", "_law_leaks"] dLawWorld.scope := ⟨rfl, rfl, rfl, by decide +kernel, rfl, by decide +kernel, by decide +kernel⟩
section
variable {P : Program} {w : World} {K : PySem.W.Frag} {mg : Str → Option Value} {base : Heap}
theorem ok_world (T : Tx K mg) : Ok P w K mg base CX0 3 dLawWorld ["_law_script", "_law_most", "_law_leaks"] (spWorld K) := by
  have Sc := ok_cell (P := P) (w := w) (base := base) T
  have Sd := ok_draws (P := P) (w := w) (base := base) T
  have Sp' := ok_people (P := P) (w := w) (base := base) T
  have Sb := ok_barred (P := P) (w := w) (base := base) T
  have Sh := ok_hidden (P := P) (w := w) (base := base) T
  have Sl := ok_lleak (P := P) (w := w) (base := base) T
  have Sk := ok_kept (P := P) (w := w) (base := base) T
  have Sm := ok_mended (P := P) (w := w) (base := base) T
  refine Ok.mk0 T _ ixLawWorld scWorld (fun _ _ _ _ _ _ us hl => match us, hl with | [_, _, _], _ => rfl) (fun vs H Q E h => ?_) (fun f cdv A outer st H vs Q E hr h => ?_)
  · obtain ⟨sc, ns, most, rfl, _⟩ := h
    rfl
  · have hu := hu_of hr
    obtain ⟨sc, ns, most, rfl, hsc, n63, m3, m24, k⟩ := h
    refine ⟨_, pss_cons (ps_set (i := 3) scWorld.nd rfl (.inl rfl) (pc Sd hr (by decide) T.g__law_draws pass0 (pa_cons (pc Sc hr (by decide) T.g__law_cell pass0 (pa_cons (pv 0) (pa_cons pe_int pa_nil))) (pa_cons pe_int pa_nil))))
      (pss_cons (ps_set (i := 4) scWorld.nd rfl (.inr rfl) (pc Sp' hr (by decide) T.g__law_people pass0 (pa_cons (pc Sc hr (by decide) T.g__law_cell pass0 (pa_cons (pv 0) (pa_cons pe_int pa_nil))) (pa_cons (pe_op op_add pe_int (pe_op op_mod (pe_callTy call_int1 (by rfl) T.f_int (by decide +kernel) (pa_cons (pe_ix ix_list (pv 3) pe_int (fun _ _ => rfl)) pa_nil)) (pe_op op_sub (pv 1) pe_int))) pa_nil))))
      (pss_cons (ps_set (i := 5) scWorld.nd rfl (.inl rfl) (pc Sb hr (by decide) T.g__law_barred pass0 (pa_cons (pc Sc hr (by decide) T.g__law_cell pass0 (pa_cons (pv 0) (pa_cons pe_int pa_nil))) (pa_cons (pv 4) pa_nil))))
      (pss_cons (ps_setLc (i := 6) (own := [("_law_k", 7)]) (g := gName 7) (tt := tYes) rfl scWorld.nd rfl rfl (sw_true rfl rfl rfl rfl) (pi_range1 (by rfl) T.f_range (pa_cons (pe_op op_mod (pe_callTy call_int1 (by rfl) T.f_int (by decide +kernel) (pa_cons (pe_ix ix_list (pv 3) pe_int (fun _ _ => rfl)) pa_nil)) (pe_op op_add (pv 2) pe_int)) pa_nil)) (blkOk_by (N := nWorld) (sc := dLawWorld.scope) (by decide +kernel))
          (fun _ _ _ _ _ => pg_name (i := 7) scWorld.nd rfl (.inl rfl)) (fun _ _ _ _ _ => pts_nil)
          (fun _ _ _ _ _ => pc Sl hr (by decide) T.g__law_leak pass0 (pa_cons (pc Sc hr (by decide) T.g__law_cell pass0 (pa_cons (pv 0) (pa_cons (pe_op op_add pe_int (pv 7)) pa_nil))) (pa_cons (pv 4) pa_nil))))
      (pss_cons (ps_if (pt_cmpR op_gt (pe_op op_mod (pe_callTy call_int1 (by rfl) T.f_int (by decide +kernel) (pa_cons (pe_ix ix_list (pv 3) pe_int (fun _ _ => rfl)) pa_nil)) pe_int) pe_int (nomark _))
        (pss_cons (ps_set (i := 8) scWorld.nd rfl (.inr rfl) (pc Sh hr (by decide) T.g__law_hidden pass0 (pa_cons (pc Sc hr (by decide) T.g__law_cell pass0 (pa_cons (pv 0) (pa_cons pe_int pa_nil))) (pa_cons (pv 4) pa_nil))))
        (pss_cons (ps_setLc (i := 5) (own := [("_law_pair", 9)]) (g := gName 9) rfl scWorld.nd rfl rfl (sw_true rfl rfl rfl rfl) (pi_list (pv 5)) (blkOk_by (N := nWorld) (sc := dLawWorld.scope) (by decide +kernel))
          (fun _ _ _ _ _ => pg_name (i := 9) scWorld.nd rfl (.inl rfl)) (fun _ _ _ _ _ => pts_one (pt_cmpR op_ne (pe_dget hu (pv 8) (pe_ix (ix_tupK (K := K) rfl) (pv 9) pe_int (fun _ _ => rfl)) (fun _ _ => rfl)) (pe_ix (ix_tupK (K := K) rfl) (pv 9) pe_int (fun _ _ => rfl)) (nomark _))) (fun _ _ _ _ _ => pv 9))
        (pss_one (ps_if (pt_cmpR op_eq (pe_op op_mod (pe_callTy call_int1 (by rfl) T.f_int (by decide +kernel) (pa_cons (pe_ix ix_list (pv 3) pe_int (fun _ _ => rfl)) pa_nil)) pe_int) pe_int (nomark _))
          (pss_one (ps_setLc (i := 6) (own := [("_law_leak_here", 10)]) (g := gName 10) rfl scWorld.nd rfl rfl (sw_true rfl rfl rfl rfl) (pi_list (pv 6)) (blkOk_by (N := nWorld) (sc := dLawWorld.scope) (by decide +kernel))
            (fun _ _ _ _ _ => pg_name (i := 10) scWorld.nd rfl (.inl rfl)) (fun _ _ _ _ _ => pts_one (pt_val (pc Sk hr (by decide) T.g__law_kept pass0 (pa_cons (pv 10) (pa_cons (pv 8) pa_nil))))) (fun _ _ _ _ _ => pv 10)))
          (pss_cons (ps_setLc (i := 6) (own := [("_law_leak_here", 10)]) (g := gName 10) (tt := tYes) rfl scWorld.nd rfl rfl (sw_true rfl rfl rfl rfl) (pi_list (pv 6)) (blkOk_by (N := nWorld) (sc := dLawWorld.scope) (by decide +kernel))
            (fun _ _ _ _ _ => pg_name (i := 10) scWorld.nd rfl (.inl rfl)) (fun _ _ _ _ _ => pts_nil) (fun _ _ _ _ _ => pc Sm hr (by decide) T.g__law_mended pass0 (pa_cons (pv 10) (pa_cons (pv 8) pa_nil))))
          (pss_one (ps_setLc (i := 6) (own := [("_law_leak_here", 10)]) (g := gName 10) rfl scWorld.nd rfl rfl (sw_true rfl rfl rfl rfl) (pi_list (pv 6)) (blkOk_by (N := nWorld) (sc := dLawWorld.scope) (by decide +kernel))
            (fun _ _ _ _ _ => pg_name (i := 10) scWorld.nd rfl (.inl rfl)) (fun _ _ _ _ _ => pts_one (pt_cmpR op_notN (pv 10) pe_non (nomark _))) (fun _ _ _ _ _ => pv 10)))))))) pss_nil)
      (pss_one (ps_ret (pe_tup (pa_cons (pv 4) (pa_cons (pv 5) (pa_cons (pv 6) pa_nil)))))))))), ?_⟩
    refine ⟨_, rfl, sc, ns, 0, rfl, hsc, n63, by decide, fun c0 => ⟨c0, 3, rfl, by decide, fun H1 hd0 ds s1 _ hhd len dok => ?_⟩⟩
    have i0 : 0 < ds.length := by omega
    have i1 : 1 < ds.length := by omega
    have i2 : 2 < ds.length := by omega
    have b0 := dok _ (List.getElem_mem i0)
    have b1 := dok _ (List.getElem_mem i1)
    have m1 : (0 : Int) < (most : Int) - 1 := by omega
    have r0 := Int.emod_nonneg ds[0] (show (most : Int) - 1 ≠ 0 by omega)
    have r1 := Int.emod_lt_of_pos ds[0] m1
    obtain ⟨n, hn⟩ : ∃ n : Nat, 2 + ds[0] % ((most : Int) - 1) = (n : Int) := ⟨(2 + ds[0] % ((most : Int) - 1)).toNat, by omega⟩
    refine ⟨_, rfl, sc, ns, 1, rfl, s1.seq hsc, n63, by decide, fun c1 => ?_⟩
    refine ⟨_, rfl, hd0, _, (0 : Nat), _, rfl, rfl, SqL.of hhd, atI_ints i0, .inl ⟨_, rfl, _, rfl, _, _, rfl, rfl, _, _, rfl, rfl, m1, _, _, rfl, rfl, c1, n, by show [V.int c1, V.int (2 + ds[0] % ((most : Int) - 1))] = _; rw [hn], by omega, by omega, fun H2 p ps s2 _ hp ok => ?_⟩⟩
    have s12 := s1.trans s2
    have hhd2 := s2 _ _ hhd
    refine ⟨_, rfl, sc, ns, 2, rfl, s12.seq hsc, n63, by decide, fun c2 => ⟨_, rfl, c2, p, ps, rfl, hp, ok, fun H3 l qs s3 hl hq fewq bar => ?_⟩⟩
    have s13 := s12.trans s3
    have hhd3 := s3 _ _ hhd2
    have hp3 := s3 _ _ hp
    -- told
    have t0 := Int.emod_nonneg ds[1] (show (5 : Int) + 1 ≠ 0 by decide)
    have t1 := Int.emod_lt_of_pos ds[1] (show (0 : Int) < 5 + 1 by decide)
    obtain ⟨kn, hkn⟩ : ∃ kn : Nat, ds[1] % (5 + 1) = (kn : Int) := ⟨(ds[1] % (5 + 1)).toNat, by omega⟩
    refine ⟨_, rfl, hd0, _, (1 : Nat), _, rfl, rfl, SqL.of hhd3, atI_ints i1, .inl ⟨_, rfl, _, rfl, _, _, rfl, rfl, _, _, rfl, rfl, by show (0 : Int) < 5 + 1; decide, (kn : Int), by show [V.int (ds[1] % (5 + 1))] = _; rw [hkn], by omega, by omega, fun D hD => ?_⟩⟩
    have rg : ((kn : Int)).toNat = kn := Int.toNat_natCast _
    rw [rg]
    refine lco_w (Wk.range (lo := 0) (n := kn)) (fun i H' => ∃ ks : List (Addr × Lk), Same H3 H' ∧ H' D = some (.lst (refs ks)) ∧ LksAt K H' ps ks ∧ ks.length = i) ⟨[], Same.new hD, upd_same, fun q m => absurd m (by simp), rfl⟩ (fun _ _ _ _ => trivial) ?_ ?_
    · rintro i y H4 H4' hi ⟨ks, s4, d4, k4, l4⟩ ⟨rfl, rfl⟩
      have s14 := s13.trans s4
      have e4 : (4 : Int) + (0 + (i : Int)) = ((4 + i : Nat) : Int) := by omega
      refine ⟨rfl, yesT ?_⟩
      refine ⟨_, rfl, _, rfl, _, _, rfl, rfl, sc, ns, 4 + i, by show [V.ref sc, V.int ((4 : Int) + (0 + (i : Int)))] = _; rw [e4], s14.seq hsc, n63, by omega, fun c4 => ⟨_, rfl, c4, p, ps, rfl, s4 _ _ hp3, ok, fun H5 t kk s5 ht hko => ?_⟩⟩
      have s35 := s4.trans s5
      have sM := Same.mut (o := .lst (refs ks ++ [V.ref t])) s35 hD
      refine ⟨refs ks, s5 _ _ d4, by rw [refs_len]; exact sz1000 (by omega), ks ++ [(t, kk)], sM, by rw [upd_same]; unfold refs; rw [List.map_append]; rfl, ?_, by rw [List.length_append, l4]; rfl⟩
      exact LksAt.snoc ((k4.same s5).lst (s5 _ _ d4)) (ht.lst (s5 _ _ d4)) hko
    rintro H4 ⟨ks, s4, d4, k4, l4⟩
    have s14 := s13.trans s4
    have hhd4 := s4 _ _ hhd3
    have hp4 := s4 _ _ hp3
    have hl4 := s4 _ _ hl
    have hq4 := hq.same s4
    have fewk : ks.length ≤ 5 := by omega
    have p3 : (0 : Int) < 3 := by decide
    refine ⟨_, rfl, hd0, _, (2 : Nat), _, rfl, rfl, SqL.of hhd4, atI_ints i2, .inl ⟨_, rfl, _, _, rfl, rfl, p3, _, _, rfl, rfl, _, rfl, ?_⟩⟩
    by_cases c : (0 : Int) < ds[2] % 3
    · rw [decide_eq_true c]
      refine iteT ?_
      refine ⟨_, rfl, sc, ns, 3, rfl, s14.seq hsc, n63, by decide, fun c3 => ⟨_, rfl, c3, p, ps, rfl, hp4, ok, fun H5 d es s5 hd hid => ?_⟩⟩
      have s15 := s14.trans s5
      have hl5 := s5 _ _ hl4
      refine ⟨_, rfl, l, rfl, ⟨_, SqL.of hl5⟩, fun D2 hD2 => ?_⟩
      refine lco_w (Wk.list (xs := refs qs)) (fun i H' => ∃ qs2 : List (Addr × (Str × Str)), Same H5 H' ∧ H' D2 = some (.lst (refs qs2)) ∧ qs2.Sublist (qs.take i)) ⟨[], Same.new hD2, upd_same, List.nil_sublist _⟩ (fun i H' _ ⟨_, s, _⟩ => s.seq (SqL.of hl5)) ?_ ?_
      · rintro i y H6 H6' hi ⟨qs2, s6, d6, sub6⟩ ⟨rfl, hy⟩
        obtain ⟨q, hqq, rfl⟩ := refs_get hy
        have qm := List.mem_of_getElem? hqq
        have hq6 := s6 _ _ (s5 _ _ (hq4 q qm))
        have mb := bar q.2 (List.mem_map.mpr ⟨q, qm, rfl⟩)
        have q1 := dget_s (h := V.str) (.inl (s6 _ _ hd)) q.2.1
        rw [(hid.hf mb.2.1).1] at q1
        refine ⟨rfl, _, rfl, _, rfl, q.1, _, 0, _, rfl, rfl, SqT.of hq6, rfl, d, _, rfl, q1, _, rfl, q.1, _, 1, _, rfl, rfl, SqT.of hq6, rfl, ne_strs ⟨_, rfl, ?_⟩⟩
        cases !decide (hf es q.2.1 = q.2.2) with
        | false => exact iteF ⟨qs2, s6, d6, by rw [take_snoc hqq]; exact sub6.trans (List.sublist_append_left _ _)⟩
        | true =>
          refine iteT ⟨_, rfl, _, d6, ?_, qs2 ++ [q], Same.mut s6 hD2, by rw [upd_same]; unfold refs; rw [List.map_append]; rfl, by rw [take_snoc hqq]; exact sub6.append (List.Sublist.refl _)⟩
          have e1 := sub6.length_le
          rw [List.length_take] at e1
          rw [refs_len]
          exact sz1000 (by omega)
      rintro H6 ⟨qs2, s6, d6, sub6⟩
      have sub7 : qs2.Sublist qs := sub6.trans (List.take_sublist _ _)
      have s16 := s15.trans s6
      have s46 := s5.trans s6
      have hq6 : PairsAt H6 qs2 := fun q m => s46 _ _ (hq4 q (sub7.subset m))
      have bar6 : BarOk ps (qs2.map (·.2)) := fun q m => bar q ((sub7.map (·.2)).subset m)
      have few6 : qs2.length ≤ 576 := Nat.le_trans sub7.length_le fewq
      have hhd6 := s46 _ _ hhd4
      have dD6 := s46 _ _ d4
      have k6 := k4.same s46
      refine ⟨_, rfl, hd0, _, (2 : Nat), _, rfl, rfl, SqL.of hhd6, atI_ints i2, .inl ⟨_, rfl, _, _, rfl, rfl, p3, rfl, _, rfl, ?_⟩⟩
      by_cases c1 : V.int (ds[2] % 3) = V.int 1
      · rw [decide_eq_true c1]
        refine iteT ⟨_, rfl, D, rfl, ⟨_, SqL.of dD6⟩, fun D3 hD3 => ?_⟩
        refine lco_w (Wk.list (xs := refs ks)) (fun i H' => ∃ ks2 : List (Addr × Lk), Same H6 H' ∧ H' D3 = some (.lst (refs ks2)) ∧ ks2.Sublist (ks.take i)) ⟨[], Same.new hD3, upd_same, List.nil_sublist _⟩ (fun i H' _ ⟨_, s, _⟩ => s.seq (SqL.of dD6)) ?_ ?_
        · rintro i y H7 H7' hi ⟨ks2, s7, d7, sub⟩ ⟨rfl, hy⟩
          obtain ⟨q, hqq, rfl⟩ := refs_get hy
          have qm := List.mem_of_getElem? hqq
          refine ⟨rfl, _, rfl, _, rfl, q.1, d, q.2, es, rfl, (k6 q qm).1.same s7, s7 _ _ (s6 _ _ hd), hid.nd, fun H8 b s8 => ⟨b, rfl, ?_⟩⟩
          have s78 := s7.trans s8
          cases b with
          | false => exact iteF ⟨ks2, s78, s8 _ _ d7, by rw [take_snoc hqq]; exact sub.trans (List.sublist_append_left _ _)⟩
          | true =>
            refine iteT ⟨_, rfl, _, s8 _ _ d7, ?_, ks2 ++ [q], Same.mut s78 hD3, by rw [upd_same]; unfold refs; rw [List.map_append]; rfl, by rw [take_snoc hqq]; exact sub.append (List.Sublist.refl _)⟩
            have e1 := sub.length_le
            rw [List.length_take] at e1
            rw [refs_len]
            exact sz1000 (by omega)
        rintro H7 ⟨ks2, s7, d7, sub⟩
        have subk : ks2.Sublist ks := sub.trans (List.take_sublist _ _)
        refine ⟨_, rfl, _, rfl, _, rfl, by show 3 ≤ sizeLine; decide, fun a ha => ?_⟩
        refine k _ a p D2 D3 ps qs2 ks2 (Same.new' (s16.trans s7) ha) upd_same (WorldAt.same ⟨s7 _ _ (s46 _ _ hp4), ok, s7 _ _ d6, hq6.same s7, few6, bar6, d7, fun q m => (k6.same s7) q (subk.subset m), Nat.le_trans subk.length_le fewk⟩ (Same.new ha))
      · rw [decide_eq_false c1]
        refine iteF ⟨_, rfl, D, rfl, ⟨_, SqL.of dD6⟩, fun D3 hD3 => ?_⟩
        refine lco_w (Wk.list (xs := refs ks)) (fun i H' => ∃ ms : List V, Same H6 H' ∧ H' D3 = some (.lst ms) ∧ (∀ v, v ∈ ms → MendV K H' ps v) ∧ ms.length = i) ⟨[], Same.new hD3, upd_same, by simp, rfl⟩ (fun i H' _ ⟨_, s, _⟩ => s.seq (SqL.of dD6)) ?_ ?_
        · rintro i y H7 H7' hi ⟨ms, s7, d7, mv, ml⟩ ⟨rfl, hy⟩
          obtain ⟨q, hqq, rfl⟩ := refs_get hy
          have qm := List.mem_of_getElem? hqq
          have il : i < 5 := by
            have := (List.getElem?_eq_some_iff.mp hqq).1
            omega
          have step : ∀ (H8 : Hp) (v : V), Same H7' H8 → MendV K H8 ps v → ∃ acc, H8 D3 = some (.lst acc) ∧ acc.length < sizeLine ∧ ∃ ms : List V, Same H6 (upd H8 D3 (.lst (acc ++ [v]))) ∧ (upd H8 D3 (.lst (acc ++ [v]))) D3 = some (.lst ms) ∧ (∀ v', v' ∈ ms → MendV K (upd H8 D3 (.lst (acc ++ [v]))) ps v') ∧ ms.length = i + 1 := fun H8 v s8 hv => by
            have d8 := s8 _ _ d7
            refine ⟨ms, d8, sz1000 (by omega), ms ++ [v], Same.mut (s7.trans s8) hD3, upd_same, fun v' hv' => ?_, by rw [List.length_append, ml]; rfl⟩
            rcases List.mem_append.mp hv' with m | m
            · exact ((mv v' m).same s8).lst d8
            · rw [List.mem_singleton.mp m]
              exact hv.lst d8
          refine ⟨rfl, yesT ⟨_, rfl, _, rfl, q.1, d, q.2, es, ps, rfl, (k6 q qm).1.same s7, (k6 q qm).2, s7 _ _ (s6 _ _ hd), hid, ok, fun H8 s8 => step H8 _ s8 (.inl rfl), fun H8 t' k' s8 h1 h2 => step H8 _ s8 (.inr ⟨t', k', rfl, h1, h2⟩)⟩⟩
        rintro H7 ⟨ms, s7, d7, mv, ml⟩
        rw [refs_len] at ml
        refine ⟨_, rfl, D3, rfl, ⟨_, SqL.of d7⟩, fun D4 hD4 => ?_⟩
        refine lco_w (Wk.list (xs := ms)) (fun i H' => ∃ ks2 : List (Addr × Lk), Same H7 H' ∧ H' D4 = some (.lst (refs ks2)) ∧ LksAt K H' ps ks2 ∧ ks2.length ≤ i) ⟨[], Same.new hD4, upd_same, fun q m => absurd m (by simp), by simp⟩ (fun i H' _ ⟨_, s, _⟩ => s.seq (SqL.of d7)) ?_ ?_
        · rintro i y H8 H8' hi ⟨ks2, s8, d8, k8, l8⟩ ⟨rfl, hy⟩
          rcases mv y (List.mem_of_getElem? hy) with rfl | ⟨t, kk, rfl, h1, h2⟩
          · exact ⟨rfl, _, rfl, rfl, _, rfl, iteF ⟨ks2, s8, d8, k8, by omega⟩⟩
          · refine ⟨rfl, _, rfl, rfl, _, rfl, iteT ⟨_, rfl, _, d8, by rw [refs_len]; exact sz1000 (by omega), ks2 ++ [(t, kk)], Same.mut s8 hD4, by rw [upd_same]; unfold refs; rw [List.map_append]; rfl, ?_, by rw [List.length_append]; simp; omega⟩⟩
            exact (k8.lst d8).snoc ((h1.same s8).lst d8) h2
        rintro H8 ⟨ks2, s8, d8, k8, l8⟩
        have s78 := s7.trans s8
        refine ⟨_, rfl, _, rfl, _, rfl, by show 3 ≤ sizeLine; decide, fun a ha => ?_⟩
        refine k _ a p D2 D4 ps qs2 ks2 (Same.new' (s16.trans s78) ha) upd_same (WorldAt.same ⟨s78 _ _ (s46 _ _ hp4), ok, s78 _ _ d6, hq6.same s78, few6, bar6, d8, k8, by omega⟩ (Same.new ha))
    · rw [decide_eq_false c]
      refine iteF ⟨_, rfl, _, rfl, _, rfl, by show 3 ≤ sizeLine; decide, fun a ha => ?_⟩
      exact k _ a p l D ps qs ks (Same.new' s14 ha) upd_same (WorldAt.same ⟨hp4, ok, hl4, hq4, fewq, bar, d4, k4, fewk⟩ (Same.new ha))
end
end GF

/- LRows -/
set_option Elab.async false
set_option linter.all false
set_option maxRecDepth 100000
set_option maxHeartbeats 4000000
namespace GF
open PySem PySem.Spec PyProof.Rows L2 GR
def pdP (q : Str × Str) : PyData := .tuple [.str q.1, .str q.2]
theorem strOk_name {x : Str} (h : NameOk x) : PyData.strOk x = true := by
  unfold PyData.strOk
  rw [Array.all_eq_true']
  intro c hc
  have := h.ls c (by simpa using hc)
  have l : ∀ c, c ∈ letters.cps.toList → c < 0x110000 := by decide +kernel
  exact decide_eq_true (l c this)
theorem pdP_lay {q : Str × Str} (h1 : NameOk q.1) (h2 : NameOk q.2) : PyData.canLay0 (pdP q) = true := by
  unfold pdP
  simp [PyData.canLay0, PyData.canLayAll0, strOk_name h1, strOk_name h2]
theorem pdP_depth (q : Str × Str) : PyData.depth (pdP q) = 1 := by
  unfold pdP
  simp [PyData.depth, PyData.depthAll]
theorem pdP_shaped {q : Str × Str} (h1 : NameOk q.1) (h2 : NameOk q.2) : SeqAt.shaped (pdP q) = true := by
  unfold SeqAt.shaped
  rw [pdP_lay h1 h2, pdP_depth]
  rfl
theorem pds_all : ∀ l : List (Str × Str), (∀ q, q ∈ l → NameOk q.1 ∧ NameOk q.2) → PyData.canLayAll0 (l.map pdP) = true ∧ PyData.depthAll (l.map pdP) ≤ 1
  | [], _ => by
    show PyData.canLayAll0 [] = true ∧ PyData.depthAll [] ≤ 1
    simp [PyData.canLayAll0, PyData.depthAll]
  | q :: l, h => by
    obtain ⟨a, b⟩ := pds_all l fun q m => h q (List.mem_cons_of_mem _ m)
    obtain ⟨c, d⟩ := h q List.mem_cons_self
    show PyData.canLayAll0 (pdP q :: l.map pdP) = true ∧ PyData.depthAll (pdP q :: l.map pdP) ≤ 1
    have e := pdP_depth q
    refine ⟨?_, ?_⟩
    · unfold PyData.canLayAll0
      rw [pdP_lay c d, a]
      rfl
    · unfold PyData.depthAll
      omega
theorem pds_shaped {l : List (Str × Str)} (h : ∀ q, q ∈ l → NameOk q.1 ∧ NameOk q.2) : SeqAt.shaped (.list (l.map pdP)) = true := by
  obtain ⟨a, b⟩ := pds_all l h
  unfold SeqAt.shaped
  have e1 : PyData.canLay0 (.list (l.map pdP)) = true := by unfold PyData.canLay0; exact a
  have e2 : PyData.depth (.list (l.map pdP)) ≤ 64 := by unfold PyData.depth; omega
  rw [e1, decide_eq_true e2]
  rfl
theorem pdP_eqv (a b : Str × Str) : PyData.eqv (pdP a) (pdP b) = decide (a = b) := by
  unfold pdP
  simp only [PyData.eqv, PyData.eqvAll]
  rw [Bool.eq_iff_iff]
  simp
  exact ⟨fun ⟨h1, h2⟩ => Prod.ext h1 h2, fun h => by rw [h]; exact ⟨rfl, rfl⟩⟩
theorem pds_in (l : List (Str × Str)) (q : Str × Str) : ((l.map pdP).any fun z => PyData.eqv z (pdP q)) = decide (q ∈ l) := by
  rw [List.any_map]
  by_cases h : q ∈ l
  · rw [decide_eq_true h, List.any_eq_true]
    exact ⟨q, h, by show PyData.eqv (pdP q) (pdP q) = true; rw [pdP_eqv]; simp⟩
  · rw [decide_eq_false h, List.any_eq_false]
    intro z hz
    show ¬ PyData.eqv (pdP z) (pdP q) = true
    rw [pdP_eqv]
    intro e
    exact h (of_decide_eq_true e ▸ hz)
theorem dp_pair {K : PySem.W.Frag} {H : Hp} {a : Addr} {q : Str × Str} (h : H a = some (.tup [.str q.1, .str q.2])) : Dp K H (.ref a) (pdP q) := .tup (SqT.of h) (.cons (.str _) (.cons (.str _) .nil))
theorem dp_pairs {K : PySem.W.Frag} {H : Hp} : ∀ {qs : List (Addr × (Str × Str))}, PairsAt H qs → DpAll K H (refs qs) ((qs.map (·.2)).map pdP)
  | [], _ => .nil
  | q :: qs, h => .cons (dp_pair (h q List.mem_cons_self)) (dp_pairs fun z m => h z (List.mem_cons_of_mem _ m))
/-- a pair not in a list of pairs -/
theorem nin_pairs {K : PySem.W.Frag} {H : Hp} {a l : Addr} {q : Str × Str} {qs : List (Addr × (Str × Str))} {Q : VK} (ha : H a = some (.tup [.str q.1, .str q.2])) (hl : H l = some (.lst (refs qs))) (hq : PairsAt H qs) (n1 : NameOk q.1) (n2 : NameOk q.2)
    (nq : ∀ z, z ∈ qs.map (·.2) → NameOk z.1 ∧ NameOk z.2) (k : Q (.bl (!decide (q ∈ qs.map (·.2)))) H) : rNotInD K (.ref a) (.ref l) H Q :=
  ⟨pdP q, (qs.map (·.2)).map pdP, dp_pair ha, .lst (SqL.of hl) (dp_pairs hq), pdP_shaped n1 n2, pds_shaped nq, by rw [pds_in]; exact k⟩
theorem op_ninDK {X : Cx} {K : PySem.W.Frag} (hK : X.K = K) (hu : X.A.units + 65 < cLine) : OpR X (compareOp .NotIn) (rNotInD K) := by
  subst hK
  exact op_notInD hu
def spRows (K : PySem.W.Frag) : Sp := fun vs H Q _ => ∃ (p l m : Addr) (ps : List Str) (qs : List (Addr × (Str × Str))) (ks : List (Addr × Lk)), vs = [.ref p, .ref l, .ref m] ∧ WorldAt K H p l m ps qs ks ∧
  ∀ H' r ad, Same H H' → H r = none → RowsU H' r ps ad (frow ps (qs.map (·.2)) (ks.map (·.2))) → Q (.ref r) H'
abbrev nRows : List Str := ["_law_people_here", "_law_closed", "_law_leaks", "_law_rows_here", "_law_a", "_law_row", "_law_b", "_law_leak_here"]
theorem scRows : FnScope nRows ["_law_people_here", "_law_closed", "_law_leaks"] dLawRows.scope := ⟨rfl, rfl, rfl, by decide +kernel, rfl, by decide +kernel, by decide +kernel⟩
section
variable {P : Program} {w : World} {K : PySem.W.Frag} {mg : Str → Option Value} {base : Heap}
theorem ok_rows (T : Tx K mg) : Ok P w K mg base CX0 2 dLawRows ["_law_people_here", "_law_closed", "_law_leaks"] (spRows K) := by
  have S := ok_llets (P := P) (w := w) (base := base) T
  refine Ok.mk0 T _ ixLawRows scRows (fun _ _ _ _ _ _ us hl => match us, hl with | [_, _, _], _ => rfl) (fun vs H Q E h => ?_) (fun f cdv A outer st H vs Q E hr h => ?_)
  · obtain ⟨p, l, m, ps, qs, ks, rfl, _⟩ := h
    rfl
  · have hu := hu_of hr
    have hu65 : (A.deeper (envOfC dLawRows.qual dLawRows.scope st.heap.objs.size f cdv)).units + 65 < cLine := by have := hr.un; omega
    obtain ⟨p, l, m, ps, qs, ks, rfl, W, k⟩ := h
    refine ⟨_, pss_cons (ps_set (i := 3) scRows.nd rfl (.inl rfl) pe_dnewK)
      (pss_cons (ps_for PassesOwn.never rfl (pi_list (pv 0)) (pg_name (i := 4) scRows.nd rfl (.inr rfl))
        (pss_cons (ps_set (i := 5) scRows.nd rfl (.inl rfl) (pe_lst pa_nil))
        (pss_cons (ps_for PassesOwn.never rfl (pi_list (pe_callB cr_sortedS (by rfl) T.f_sorted (by decide +kernel) (pa_cons (pv 0) pa_nil))) (pg_name (i := 6) scRows.nd rfl (.inr rfl))
          (pss_one (ps_if (PW.pt (pw_and (pt_cmpR op_ne (pv 4) (pv 6) (nomark _)) (pw_and (pt_cmpR (op_notInD hu65) (pe_tup (pa_cons (pv 4) (pa_cons (pv 6) pa_nil))) (pv 1) rfl)
              (pw_and1 (pt_val (pe_callB (cr_all rfl) (by rfl) T.f_all (by decide +kernel) (pa_cons (pe_lc (own := [("_law_leak_here", 7)]) (g := gName 7) (tt := tYes) rfl scRows.nd (pi_list (pv 2)) (blkOk_by (N := nRows) (sc := dLawRows.scope) (by decide +kernel))
                (fun _ _ _ _ _ => pg_name (i := 7) scRows.nd rfl (.inl rfl)) (fun _ _ _ _ _ => pts_nil) (fun _ _ _ _ _ => pc S hr (by decide) T.g__law_lets pass0 (pa_cons (pv 7) (pa_cons (pv 4) (pa_cons (pv 6) pa_nil))))) pa_nil)))))))
            (pss_one (ps_expr (pe_bm PySem.F.plainAttrs_list PySem.F.slot_list_append PySem.F.type_list_append mt_append (pv 5) (pa_cons (pv 6) pa_nil)))) pss_nil)))
        (pss_one (ps_dput hu (pv 3) (pv 4) (pv 5) rfl)))))
      (pss_one (ps_ret (pv 3)))), ?_⟩
    have ok := W.ok
    have n24 := ok.hi
    have nq : ∀ z, z ∈ qs.map (·.2) → NameOk z.1 ∧ NameOk z.2 := fun z hz => ⟨ok.nm _ (W.bar z hz).2.1, ok.nm _ (W.bar z hz).2.2⟩
    intro fr hfr
    refine ⟨_, rfl, p, rfl, ⟨_, (Same.new hfr).seq (SqL.of W.hp)⟩, ?_⟩
    refine for_w (Wk.list (xs := ps.map V.str)) (fun i σ H' => ∃ v4 v5 v6, σ = [some (.ref p), some (.ref l), some (.ref m), some (.ref fr), v4, v5, v6, none] ∧ RowsB H H' fr ps (frow ps (qs.map (·.2)) (ks.map (·.2))) i) ⟨none, none, none, rfl, RowsB.start hfr⟩
      (fun i σ H' _ ⟨_, _, _, _, r⟩ => r.same.seq (SqL.of W.hp)) ?_ ?_
    · rintro i y σ H1 H1' hi ⟨v4, v5, v6, rfl, RB⟩ ⟨rfl, hy⟩
      obtain ⟨g, hg, rfl⟩ := map_get hy
      have gin : g ∈ ps := List.mem_of_getElem? hg
      refine ⟨by decide, fun D hD => ?_⟩
      have s1 : Same H1' (upd H1' D (.lst [])) := Same.new hD
      have d1 : (upd H1' D (.lst [])) D = some (.lst []) := upd_same
      generalize upd H1' D (.lst []) = H2 at s1 d1 ⊢
      have s02 := RB.same.trans s1
      refine ⟨_, rfl, p, ps, rfl, SqL.of (s02 _ _ W.hp), by omega, fun ys a pm so ha => ?_⟩
      have e := sorted_is ok.nd pm so
      subst e
      have s3 : Same H1' (upd H2 a (.lst ((srt ps).map V.str))) := Same.new' s1 ha
      have a3 : SqL K (upd H2 a (.lst ((srt ps).map V.str))) a ((srt ps).map V.str) := SqL.of upd_same
      have d3 : (upd H2 a (.lst ((srt ps).map V.str))) D = some (.lst []) := Same.new ha _ _ d1
      have aD : D ≠ a := ne_of_none d1 ha
      generalize upd H2 a (.lst ((srt ps).map V.str)) = H3 at s3 a3 d3 ⊢
      refine ⟨a, rfl, ⟨_, a3⟩, ?_⟩
      refine for_w (Wk.list (xs := (srt ps).map V.str)) (fun j σ H' => ∃ v6, σ = [some (.ref p), some (.ref l), some (.ref m), some (.ref fr), some (.str g), some (.ref D), v6, none] ∧ Same H1' H' ∧ SqL K H' a ((srt ps).map V.str) ∧ H' D = some (.lst ((((srt ps).take j).filter fun t => mayB (qs.map (·.2)) g t && (ks.map (·.2)).all fun k => letB k g t).map V.str)))
        ⟨v6, rfl, s3, a3, d3⟩ (fun j σ H' _ ⟨_, _, _, h, _⟩ => h) ?_ ?_
      · rintro j y σ H4 H4' hj ⟨v6, rfl, s4, a4, d4⟩ ⟨rfl, hy⟩
        obtain ⟨t, ht, rfl⟩ := map_get hy
        have tin : t ∈ ps := mem_srt.mp (List.mem_of_getElem? ht)
        have s04 := RB.same.trans s4
        have fs := filter_snoc (p := fun t => mayB (qs.map (·.2)) g t && (ks.map (·.2)).all fun k => letB k g t) ht
        have skip : (mayB (qs.map (·.2)) g t && (ks.map (·.2)).all fun k => letB k g t) = false → ∀ H5, Same H4' H5 → ∃ v6, [some (V.ref p), some (.ref l), some (.ref m), some (.ref fr), some (.str g), some (.ref D), some (.str t), none] = [some (.ref p), some (.ref l), some (.ref m), some (.ref fr), some (.str g), some (.ref D), v6, none] ∧ Same H1' H5 ∧ SqL K H5 a ((srt ps).map V.str) ∧ H5 D = some (.lst ((((srt ps).take (j + 1)).filter fun t => mayB (qs.map (·.2)) g t && (ks.map (·.2)).all fun k => letB k g t).map V.str)) := fun c H5 s5 => by
          refine ⟨_, rfl, s4.trans s5, s5.seq a4, ?_⟩
          rw [if_neg (by rw [c]; decide)] at fs
          rw [fs, List.append_nil]
          exact s5 _ _ d4
        refine ⟨_, rfl, _, rfl, ne_strs ⟨_, rfl, ?_⟩⟩
        by_cases c1 : g = t
        · rw [decide_eq_true c1]
          refine iteF (iteF (skip ?_ _ (Same.refl _)))
          have : mayB (qs.map (·.2)) g t = false := decide_eq_false fun z => z.1 c1
          rw [this]
          rfl
        · rw [decide_eq_false c1]
          refine iteT ⟨_, rfl, _, rfl, by show 2 ≤ sizeLine; decide, fun b hb => ⟨_, rfl, ?_⟩⟩
          have s5 : Same H4' (upd H4' b (.tup [.str g, .str t])) := Same.new hb
          have W5 := W.same (s04.trans s5)
          refine nin_pairs (q := (g, t)) upd_same W5.hl W5.hq (ok.nm g gin) (ok.nm t tin) nq ⟨_, rfl, ?_⟩
          generalize upd H4' b (.tup [.str g, .str t]) = H5 at s5 W5 ⊢
          by_cases c2 : (g, t) ∈ qs.map (·.2)
          · rw [decide_eq_true c2]
            refine iteF (iteF (skip ?_ _ s5))
            have : mayB (qs.map (·.2)) g t = false := decide_eq_false fun z => z.2 c2
            rw [this]
            rfl
          · rw [decide_eq_false c2]
            have mb : mayB (qs.map (·.2)) g t = true := decide_eq_true ⟨c1, c2⟩
            refine iteT ⟨_, rfl, m, rfl, ⟨_, SqL.of W5.hm⟩, fun D2 hD2 => ?_⟩
            refine lco_w (Wk.list (xs := refs ks)) (fun i H' => Same H5 H' ∧ H' D2 = some (.lst (((ks.take i).map fun q => letB q.2 g t).map V.bl))) ⟨Same.new hD2, upd_same⟩ (fun i H' _ p => p.1.seq (SqL.of W5.hm)) ?_ ?_
            · rintro i2 y H6 H6' hi2 ⟨s6, d6⟩ ⟨rfl, hy⟩
              obtain ⟨q, hqq, rfl⟩ := refs_get hy
              refine ⟨rfl, yesT ⟨_, rfl, _, rfl, _, rfl, q.1, q.2, g, t, rfl, (W5.hk q (List.mem_of_getElem? hqq)).1.same s6, _, d6, ?_, Same.mut s6 hD2, ?_⟩⟩
              · rw [List.length_map, List.length_map, List.length_take]
                have := W.fewk
                exact sz1000 (by omega)
              · rw [upd_same, take_snoc hqq, List.map_append, List.map_append]
                rfl
            rintro H6 ⟨s6, d6⟩
            rw [refs_len, List.take_length] at d6
            refine ⟨D2, _, rfl, SqL.of d6, _, rfl, ?_⟩
            have eall : (ks.map fun q => letB q.2 g t).all id = (ks.map (·.2)).all fun k => letB k g t := by rw [List.all_map, List.all_map]; rfl
            rw [eall]
            have s56 := s5.trans s6
            cases c3 : (ks.map (·.2)).all fun k => letB k g t with
            | false => exact iteF (skip (by rw [c3, Bool.and_false]) _ s56)
            | true =>
              refine iteT ?_
              have d7 := s56 _ _ d4
              refine ⟨_, rfl, .inl ⟨rfl, _, SqL.of d7⟩, _, rfl, D, _, _, rfl, rfl, d7, ?_, ?_⟩
              · rw [List.length_map]
                have h1 := List.length_filter_le (fun t => mayB (qs.map (·.2)) g t && (ks.map (·.2)).all fun k => letB k g t) ((srt ps).take j)
                rw [List.length_take, srt_len ok.nd] at h1
                exact sz1000 (by omega)
              · have s47 := s4.trans s56
                have a7 := s56.seq a4
                refine ⟨_, rfl, Same.mut s47 hD, ?_, ?_⟩
                · rcases a7 with (h | ⟨o, h⟩) | h
                  · exact .inl (.inl (by rw [upd_ne (Ne.symm aD)]; exact h))
                  · exact .inl (.inr ⟨o, by rw [upd_ne (Ne.symm aD)]; exact h⟩)
                  · exact .inr h
                · rw [if_pos (by rw [mb, c3]; rfl)] at fs
                  rw [upd_same, fs, List.map_append]
                  rfl
      · rintro σ H4 ⟨v6, rfl, s4, a4, d4⟩
        rw [List.length_map, List.take_length] at d4
        have ef : (srt ps).filter (fun t => mayB (qs.map (·.2)) g t && (ks.map (·.2)).all fun k => letB k g t) = frow ps (qs.map (·.2)) (ks.map (·.2)) g := by
          unfold frow
          rw [List.filter_filter]
          congr 1
          funext t
          rw [Bool.and_comm]
        rw [ef] at d4
        obtain ⟨H5, put5, R5⟩ := (RB.ext s4).next hg ok.nd (by omega) hfr d4
        exact ⟨_, rfl, _, rfl, _, rfl, fr, H5, rfl, put5, _, _, _, rfl, R5⟩
    · rintro σ H1 ⟨v4, v5, v6, rfl, RB⟩
      rw [List.length_map] at RB
      obtain ⟨ad, RU⟩ := RB.fin
      exact ⟨_, rfl, k H1 fr ad RB.same hfr RU⟩
end
end GF

/- LPrice -/
set_option Elab.async false
set_option linter.all false
set_option maxRecDepth 100000
set_option maxHeartbeats 4000000
namespace GF
open PySem PySem.Spec PyProof.Rows L2 GR
def spLPrice : Sp := fun vs H Q _ => ∃ (a b kd : Int), vs = [.int a, .int b, .int kd] ∧ (0 ≤ a ∧ a < 5040) ∧ (0 ≤ b ∧ b < 5040) ∧ ∀ n, 0 ≤ n → n ≤ top_ → Q (.int n) H
abbrev nLPrice : List Str := ["_law_number", "_law_more", "_law_kind"]
theorem scLPrice : FnScope nLPrice ["_law_number", "_law_more", "_law_kind"] dLawPrice.scope := ⟨rfl, rfl, rfl, by decide +kernel, rfl, by decide +kernel, by decide +kernel⟩
theorem isKeys_pairs {H : Hp} : ∀ {es : List ((Str × Str) × Int)} {bs : List Addr}, IsKeys H (mp k2 V.int es) bs → ∃ qs : List (Addr × (Str × Str)), bs.map V.ref = refs qs ∧ PairsAt H qs ∧ qs.map (·.2) = keys es
  | [], _, .nil => ⟨[], rfl, fun q m => absurd m (by simp), rfl⟩
  | e :: es, _, .cons (b := b) h t => by
    obtain ⟨qs, h1, h2, h3⟩ := isKeys_pairs (es := es) t
    refine ⟨(b, e.1) :: qs, by show V.ref b :: _ = V.ref b :: _; rw [h1]; rfl, fun q m => ?_, by show e.1 :: _ = e.1 :: _; rw [h3]; rfl⟩
    rcases List.mem_cons.mp m with z | z
    · rw [z]; exact h
    · exact h2 q z
theorem frow_may {ps : List Str} {cl : List (Str × Str)} {ks : List Lk} {g t : Str} (h : t ∈ frow ps cl ks g) : g ≠ t ∧ (g, t) ∉ cl := by
  unfold frow at h
  exact of_decide_eq_true (p := g ≠ t ∧ (g, t) ∉ cl) (List.mem_filter.mp (List.mem_filter.mp h).1).2
/-- prices while they are laid -/
structure PrB (ps : List Str) (cl : List (Str × Str)) (es : List ((Str × Str) × Int)) : Prop where
  nd : (keys es).Nodup
  op : ∀ q, q ∈ keys es → q.1 ≠ q.2 ∧ q.1 ∈ ps ∧ q.2 ∈ ps ∧ (q.1, q.2) ∉ cl
  rng : ∀ q v, gt es q = some v → 0 ≤ v ∧ v ≤ top_
theorem PrB.put {ps : List Str} {cl : List (Str × Str)} {es : List ((Str × Str) × Int)} (h : PrB ps cl es) {q : Str × Str} {v : Int} (hq : q.1 ≠ q.2 ∧ q.1 ∈ ps ∧ q.2 ∈ ps ∧ (q.1, q.2) ∉ cl) (hv : 0 ≤ v ∧ v ≤ top_) : PrB ps cl (put es q v) := by
  refine ⟨nd_put _ h.nd, fun z hz => ?_, fun z u e => ?_⟩
  · rcases mem_keys_put.mp hz with c | c
    · rw [c]; exact hq
    · exact h.op z c
  · rw [gt_put] at e
    by_cases c : z = q
    · rw [if_pos c] at e
      cases e
      exact hv
    · rw [if_neg c] at e
      exact h.rng z u e
def spLPrices (K : PySem.W.Frag) : Sp := fun vs H Q _ => ∃ (c : Int) (p l m r : Addr) (ps : List Str) (qs : List (Addr × (Str × Str))) (ks : List (Addr × Lk)) (ad : Str → Addr), vs = [.int c, .ref p, .ref l, .ref r] ∧ WorldAt K H p l m ps qs ks ∧ RowsU H r ps ad (frow ps (qs.map (·.2)) (ks.map (·.2))) ∧
  ∀ H' d es pr, Same H H' → H d = none → H' d = some (dP es) → PrOk ps (qs.map (·.2)) (frow ps (qs.map (·.2)) (ks.map (·.2))) es pr → Q (.ref d) H'
abbrev nLPrices : List Str := ["_law_cell_here", "_law_people_here", "_law_closed", "_law_rows_here", "_law_draws_here", "_law_kind", "_law_prices_here", "_law_at", "_law_a", "_law_b", "_law_free", "_law_level", "_law_pair"]
theorem scLPrices : FnScope nLPrices ["_law_cell_here", "_law_people_here", "_law_closed", "_law_rows_here"] dLawPrices.scope := ⟨rfl, rfl, rfl, by decide +kernel, rfl, by decide +kernel, by decide +kernel⟩
section
variable {P : Program} {w : World} {K : PySem.W.Frag} {mg : Str → Option Value} {base : Heap}
theorem ok_lprice (T : Tx K mg) : Ok P w K mg base CX0 1 dLawPrice ["_law_number", "_law_more", "_law_kind"] spLPrice := by
  refine Ok.mk0 T _ ixLawPrice scLPrice (fun _ _ _ _ _ _ us hl => match us, hl with | [_, _, _], _ => rfl) (fun vs H Q E h => ?_) (fun f cdv A outer st H vs Q E hr h => ?_)
  · obtain ⟨a, b, kd, rfl, _⟩ := h
    rfl
  · obtain ⟨a, b, kd, rfl, ha, hb, k⟩ := h
    refine ⟨_, pss_cons (ps_if (pt_cmpR op_eq (pv 2) pe_int (nomark _)) (pss_one (ps_ret (pe_op op_mod (pe_callTy call_int1 (by rfl) T.f_int (by decide +kernel) (pa_cons (pv 0) pa_nil)) pe_int))) pss_nil)
      (pss_cons (ps_if (pt_cmpR op_eq (pv 2) pe_int (nomark _)) (pss_one (ps_ret (pe_op op_mod (pe_callTy call_int1 (by rfl) T.f_int (by decide +kernel) (pa_cons (pv 0) pa_nil)) pe_int))) pss_nil)
      (pss_cons (ps_if (pt_cmpR op_eq (pv 2) pe_int (nomark _)) (pss_one (ps_ret (pe_op op_mod (pe_callTy call_int1 (by rfl) T.f_int (by decide +kernel) (pa_cons (pe_op op_add (pe_op op_mul (pv 0) pe_int) (pv 1)) pa_nil)) pe_int))) pss_nil)
      (pss_one (ps_ret (pe_callB (call_min2 rfl) (by rfl) T.f_min (by decide +kernel) (pa_cons (pe_op op_pow pe_int pe_int) (pa_cons (pe_op op_fdiv (pe_op op_mul (pe_op op_add (pe_op op_add (pe_op op_mul (pv 0) pe_int) (pv 1)) pe_int) (pe_op op_pow pe_int pe_int)) pe_int) pa_nil))))))), ?_⟩
    have small : ∀ x m : Int, 0 < m → m ≤ 1000 → 0 ≤ x % m ∧ x % m ≤ top_ := fun x m h1 h2 => by
      have a1 := Int.emod_nonneg x (show m ≠ 0 by omega)
      have a2 := Int.emod_lt_of_pos x h1
      have : (1000 : Int) ≤ top_ := by decide
      omega
    refine ⟨_, rfl, rfl, _, rfl, ?_⟩
    by_cases c0 : V.int kd = V.int 0
    · rw [decide_eq_true c0]
      obtain ⟨q1, q2⟩ := small a 2 (by decide) (by decide)
      exact iteT ⟨_, rfl, .inl ⟨_, rfl, _, _, rfl, rfl, by show (0 : Int) < 2; decide, k _ q1 q2⟩⟩
    rw [decide_eq_false c0]
    refine iteF ⟨_, rfl, rfl, _, rfl, ?_⟩
    by_cases c1 : V.int kd = V.int 1
    · rw [decide_eq_true c1]
      obtain ⟨q1, q2⟩ := small a 6 (by decide) (by decide)
      exact iteT ⟨_, rfl, .inl ⟨_, rfl, _, _, rfl, rfl, by show (0 : Int) < 6; decide, k _ q1 q2⟩⟩
    rw [decide_eq_false c1]
    refine iteF ⟨_, rfl, rfl, _, rfl, ?_⟩
    by_cases c2 : V.int kd = V.int 2
    · rw [decide_eq_true c2]
      obtain ⟨q1, q2⟩ := small (a * 5040 + b) 1000 (by decide) (by decide)
      exact iteT ⟨_, rfl, _, _, rfl, rfl, .inl ⟨by omega, by omega⟩, _, rfl, _, _, rfl, rfl, .inl ⟨_, rfl, _, _, rfl, rfl, by show (0 : Int) < 1000; decide, k _ q1 q2⟩⟩
    rw [decide_eq_false c2]
    refine iteF ?_
    refine ⟨_, _, rfl, rfl, ⟨by decide, by decide, by decide⟩, _, rfl, _, _, rfl, rfl, .inl ⟨by omega, by omega⟩, _, rfl, _, _, rfl, rfl, _, _, rfl, rfl, _, _, rfl, rfl, ⟨by decide, by decide, by decide⟩, _, _, rfl, rfl, .inl ⟨by omega, by omega⟩, _, _, rfl, rfl, ⟨by decide, by decide⟩, _, _, rfl, ?_⟩
    have e30 : (10 : Int) ^ (30 : Int).toNat = top_ := by decide +kernel
    dsimp only
    rw [e30]
    have x0 : 0 ≤ (a * 5040 + b + 1) * top_ / 25401600 := Int.ediv_nonneg (Int.mul_nonneg (by omega) (by decide)) (by decide)
    split
    · exact k _ x0 (by omega)
    · exact k _ (by decide) (Int.le_refl _)
theorem ok_lprices (T : Tx K mg) : Ok P w K mg base CX0 2 dLawPrices ["_law_cell_here", "_law_people_here", "_law_closed", "_law_rows_here"] (spLPrices K) := by
  have S1 := ok_draws (P := P) (w := w) (base := base) T
  have S2 := ok_lprice (P := P) (w := w) (base := base) T
  refine Ok.mk0 T _ ixLawPrices scLPrices (fun _ _ _ _ _ _ us hl => match us, hl with | [_, _, _, _], _ => rfl) (fun vs H Q E h => ?_) (fun f cdv A outer st H vs Q E hr h => ?_)
  · obtain ⟨c, p, l, m, r, ps, qs, ks, ad, rfl, _⟩ := h
    rfl
  · have hu := hu_of hr
    have hu65 : (A.deeper (envOfC dLawPrices.qual dLawPrices.scope st.heap.objs.size f cdv)).units + 65 < cLine := by have := hr.un; omega
    obtain ⟨c, p, l, m, r, ps, qs, ks, ad, rfl, W, R, k⟩ := h
    refine ⟨_, pss_cons (ps_set (i := 4) scLPrices.nd rfl (.inl rfl) (pc S1 hr (by decide) T.g__law_draws pass0 (pa_cons (pv 0) (pa_cons (pe_op op_add (pe_op op_mul (pe_op op_mul pe_int (pe_callB call_len (by rfl) T.f_len (by decide +kernel) (pa_cons (pv 1) pa_nil))) (pe_callB call_len (by rfl) T.f_len (by decide +kernel) (pa_cons (pv 1) pa_nil))) pe_int) pa_nil))))
      (pss_cons (ps_set (i := 5) scLPrices.nd rfl (.inl rfl) (pe_ix ix_list (pe_lst (pa_cons pe_int (pa_cons pe_int (pa_cons pe_int (pa_cons pe_int (pa_cons pe_int (pa_cons pe_int pa_nil))))))) (pe_op op_mod (pe_callTy call_int1 (by rfl) T.f_int (by decide +kernel) (pa_cons (pe_ix ix_list (pv 4) pe_int (fun _ _ => rfl)) pa_nil)) pe_int) (fun _ _ => rfl)))
      (pss_cons (ps_set (i := 6) scLPrices.nd rfl (.inl rfl) pe_dnewT)
      (pss_cons (ps_set (i := 7) scLPrices.nd rfl (.inl rfl) pe_int)
      (pss_cons (ps_for PassesOwn.never rfl (pi_list (pv 1)) (pg_name (i := 8) scLPrices.nd rfl (.inl rfl))
        (pss_one (ps_for PassesOwn.never rfl (pi_list (pv 1)) (pg_name (i := 9) scLPrices.nd rfl (.inl rfl))
          (pss_cons (ps_set (i := 10) scLPrices.nd rfl (.inl rfl) (pe_cmpR op_in_seq (pv 9) (pe_dget hu (pv 3) (pv 8) (fun _ _ => rfl)) rfl))
          (pss_cons (ps_if (PW.pt (pw_and (pt_cmpR op_ne (pv 8) (pv 9) (nomark _)) (pw_and (pt_cmpR (op_notInD hu65) (pe_tup (pa_cons (pv 8) (pa_cons (pv 9) pa_nil))) (pv 2) rfl)
              (pw_and1 (PW.pt (pw_or (pt_truth (pv 10) (fun _ => rfl)) (pw_or1 (pt_cmpR op_gt (pe_op op_mod (pe_callTy call_int1 (by rfl) T.f_int (by decide +kernel) (pa_cons (pe_ix ix_list (pv 4) (pv 7) (fun _ _ => rfl)) pa_nil)) pe_int) pe_int (nomark _)))))))))
            (pss_one (ps_dput hu (pv 6) (pe_tup (pa_cons (pv 8) (pa_cons (pv 9) pa_nil))) (pc S2 hr (by decide) T.g__law_price pass0 (pa_cons (pe_ix ix_list (pv 4) (pv 7) (fun _ _ => rfl)) (pa_cons (pe_ix ix_list (pv 4) (pe_op op_add (pv 7) pe_int) (fun _ _ => rfl)) (pa_cons (pv 5) pa_nil)))) rfl)) pss_nil)
          (pss_one (ps_set (i := 7) scLPrices.nd rfl (.inl rfl) (pe_op op_add (pv 7) pe_int))))))))
      (pss_cons (ps_if (pt_cmpR op_eq (pe_op op_mod (pe_callTy call_int1 (by rfl) T.f_int (by decide +kernel) (pa_cons (pe_ix ix_list (pv 4) pe_int (fun _ _ => rfl)) pa_nil)) pe_int) pe_int (nomark _))
        (pss_cons (ps_set (i := 11) scLPrices.nd rfl (.inl rfl) (pc S2 hr (by decide) T.g__law_price pass0 (pa_cons (pe_ix ix_list (pv 4) pe_int (fun _ _ => rfl)) (pa_cons (pe_ix ix_list (pv 4) pe_int (fun _ _ => rfl)) (pa_cons (pv 5) pa_nil)))))
        (pss_one (ps_for PassesOwn.never rfl (pi_list (pe_callTy (T := "list") (call_list_dT rfl) (by rfl) T.f_list (by decide +kernel) (pa_cons (pv 6) pa_nil))) (pg_name (i := 12) scLPrices.nd rfl (.inl rfl))
          (pss_one (ps_if (pt_cmpR op_gt (pe_dget hu (pv 6) (pv 12) (fun _ _ => rfl)) (pv 11) (nomark _)) (pss_one (ps_dput hu (pv 6) (pv 12) (pv 11) rfl)) pss_nil))))) pss_nil)
      (pss_one (ps_ret (pv 6)))))))), ?_⟩
    have ok := W.ok
    have n24 := ok.hi
    have n2 := ok.lo
    obtain ⟨n, hn⟩ : ∃ n, ps.length = n := ⟨_, rfl⟩
    have nn : n * n ≤ 24 * 24 := Nat.mul_le_mul (show n ≤ 24 by omega) (show n ≤ 24 by omega)
    have e1 : (2 : Int) * (n : Int) * (n : Int) + 3 = ((2 * (n * n) + 3 : Nat) : Int) := by
      rw [Int.natCast_add, Int.natCast_mul, Int.natCast_mul, Int.mul_assoc]
      rfl
    have lenP : ∀ {H' : Hp}, Same H H' → LenV K (.ref p) H' ps.length := fun s => len_go (SqL.of (s _ _ W.hp))
    rw [hn] at lenP n24 n2
    have m1 : (2 : Int) * (n : Int) < 2 ^ 64 := by omega
    refine ⟨_, rfl, _, rfl, _, n, rfl, lenP (Same.refl H), _, _, rfl, rfl, .inl ⟨by decide, by decide⟩, _, rfl, _, n, rfl, lenP (Same.refl H), _, _, rfl, rfl, .inl ⟨by show -(2 ^ 64) < (2 : Int) * (n : Int); omega, m1⟩, _, _, rfl, rfl, c, 2 * (n * n) + 3, by show [V.int c, V.int ((2 : Int) * (n : Int) * (n : Int) + 3)] = _; rw [e1], by omega, fun H1 dl ds s1 _ hdl len dok => ?_⟩
    have i0 : 0 < ds.length := by omega
    have i1 : 1 < ds.length := by omega
    have i2 : 2 < ds.length := by omega
    have b0 := dok _ (List.getElem_mem i0)
    have b1 := dok _ (List.getElem_mem i1)
    have b2 := dok _ (List.getElem_mem i2)
    refine ⟨by show 6 ≤ sizeLine; decide, fun t ht => ?_⟩
    have s2 := Same.new' (o := .lst [V.int 0, .int 1, .int 1, .int 2, .int 2, .int 3]) s1 ht
    have hdl2 : (upd H1 t (.lst [V.int 0, .int 1, .int 1, .int 2, .int 2, .int 3])) dl = some (.lst (ds.map V.int)) := Same.new ht _ _ hdl
    refine ⟨_, rfl, dl, _, (0 : Nat), _, rfl, rfl, SqL.of hdl2, atI_ints i0, .inl ⟨_, rfl, _, _, rfl, rfl, by show (0 : Int) < 6; decide, ?_⟩⟩
    obtain ⟨wn, hw, hwl⟩ : ∃ wn : Nat, ds[0] % 6 = (wn : Int) ∧ wn < 6 := ⟨(ds[0] % 6).toNat, by omega, by omega⟩
    have wl : wn < ([0, 1, 1, 2, 2, 3] : List Int).length := hwl
    refine ⟨t, _, _, _, rfl, rfl, SqL.of upd_same, by rw [hw]; exact atI_ints wl, ?_⟩
    generalize ([0, 1, 1, 2, 2, 3] : List Int)[wn] = kd
    generalize upd H1 t (.lst [V.int 0, .int 1, .int 1, .int 2, .int 2, .int 3]) = H2 at hdl2 s2 ⊢
    intro D hD
    have s3 := Same.new' (o := .dT []) s2 hD
    have hdl3 : (upd H2 D (.dT [])) dl = some (.lst (ds.map V.int)) := Same.new hD _ _ hdl2
    have d3 : (upd H2 D (.dT [])) D = some (dP []) := upd_same
    have hD0 := s2.free hD
    have ndD : dl ≠ D := ne_of_none hdl2 hD
    generalize upd H2 D (.dT []) = H3 at s3 hdl3 d3 ⊢
    have nq : ∀ z, z ∈ qs.map (·.2) → NameOk z.1 ∧ NameOk z.2 := fun z hz => ⟨ok.nm _ (W.bar z hz).2.1, ok.nm _ (W.bar z hz).2.2⟩
    refine ⟨_, rfl, p, rfl, ⟨_, SqL.of (s3 _ _ W.hp)⟩, ?_⟩
    have lenE : ∀ {es : List ((Str × Str) × Int)}, PrB ps (qs.map (·.2)) es → es.length ≤ 576 := fun {es} h => by
      have e1 := len_le_of_sub (m := flat ps fun _ => ps) h.nd fun q hq => mem_flat.mpr ⟨(h.op q hq).2.1, (h.op q hq).2.2.1⟩
      have e2 := flat_len (rw_ := fun _ => ps) (fun _ => by rw [hn]; exact n24) ps
      unfold keys at e1
      rw [List.length_map] at e1
      omega
    refine for_w (Wk.list (xs := ps.map V.str)) (fun i σ H' => ∃ (v8 v9 v10 : Option V) (at_ : Nat) (es : List ((Str × Str) × Int)), σ = [some (.int c), some (.ref p), some (.ref l), some (.ref r), some (.ref dl), some (.int kd), some (.ref D), some (.int (at_ : Int)), v8, v9, v10, none, none] ∧ Same H H' ∧ H' dl = some (.lst (ds.map V.int)) ∧ H' D = some (dP es) ∧ at_ = 3 + 2 * (n * i) ∧ PrB ps (qs.map (·.2)) es ∧
        ∀ g t, g ∈ ps.take i → t ∈ frow ps (qs.map (·.2)) (ks.map (·.2)) g → (g, t) ∈ keys es)
      ⟨none, none, none, 3, [], rfl, s3, hdl3, d3, by simp, ⟨List.nodup_nil, by simp [keys], by simp [gt]⟩, by simp⟩ (fun i σ H' _ ⟨_, _, _, _, _, _, s, _⟩ => s.seq (SqL.of W.hp)) ?_ ?_
    · rintro i y σ H4 H4' hi ⟨v8, v9, v10, at_, es, rfl, s4, l4, d4, at4, B4, c4⟩ ⟨rfl, hy⟩
      obtain ⟨g, hg, rfl⟩ := map_get hy
      have gin : g ∈ ps := List.mem_of_getElem? hg
      have il : i < n := by rw [List.length_map] at hi; omega
      refine ⟨_, rfl, p, rfl, ⟨_, SqL.of (s4 _ _ W.hp)⟩, ?_⟩
      refine for_w (Wk.list (xs := ps.map V.str)) (fun j σ H' => ∃ (v9 v10 : Option V) (at_ : Nat) (es : List ((Str × Str) × Int)), σ = [some (.int c), some (.ref p), some (.ref l), some (.ref r), some (.ref dl), some (.int kd), some (.ref D), some (.int (at_ : Int)), some (.str g), v9, v10, none, none] ∧ Same H H' ∧ H' dl = some (.lst (ds.map V.int)) ∧ H' D = some (dP es) ∧ at_ = 3 + 2 * (n * i) + 2 * j ∧ PrB ps (qs.map (·.2)) es ∧
          (∀ g t, g ∈ ps.take i → t ∈ frow ps (qs.map (·.2)) (ks.map (·.2)) g → (g, t) ∈ keys es) ∧ ∀ t, t ∈ ps.take j → t ∈ frow ps (qs.map (·.2)) (ks.map (·.2)) g → (g, t) ∈ keys es)
        ⟨v9, v10, at_, es, rfl, s4, l4, d4, by omega, B4, c4, by simp⟩ (fun j σ H' _ ⟨_, _, _, _, _, s, _⟩ => s.seq (SqL.of W.hp)) ?_ ?_
      · rintro j y σ H5 H5' hj ⟨v9, v10, at_, es, rfl, s5, l5, d5, at5, B5, c5, e5⟩ ⟨rfl, hy⟩
        obtain ⟨t, ht, rfl⟩ := map_get hy
        have tin : t ∈ ps := List.mem_of_getElem? ht
        have jl : j < n := by rw [List.length_map] at hj; omega
        have nij : n * i + j < n * n := by
          have h1 : n * (i + 1) ≤ n * n := Nat.mul_le_mul_left n (by omega)
          rw [Nat.mul_add] at h1
          omega
        have a1 : at_ < ds.length := by omega
        have a2 : at_ + 1 < ds.length := by omega
        have ba1 := dok _ (List.getElem_mem a1)
        have ba2 := dok _ (List.getElem_mem a2)
        have Ra := R.at.same s5
        refine ⟨_, rfl, _, rfl, _, rfl, r, _, rfl, Ra.get gin, in_strs (.inl (Ra.seq gin)) ?_⟩
        generalize hfr : decide (t ∈ frow ps (qs.map (·.2)) (ks.map (·.2)) g) = fr
        -- what a turn leaves
        have done : ∀ (H6 : Hp) (es6 : List ((Str × Str) × Int)), Same H H6 → H6 dl = some (.lst (ds.map V.int)) → H6 D = some (dP es6) → PrB ps (qs.map (·.2)) es6 → (∀ q, q ∈ keys es → q ∈ keys es6) → (t ∈ frow ps (qs.map (·.2)) (ks.map (·.2)) g → (g, t) ∈ keys es6) →
            ∃ (v9 v10 : Option V) (at' : Nat) (es : List ((Str × Str) × Int)), [some (V.int c), some (.ref p), some (.ref l), some (.ref r), some (.ref dl), some (.int kd), some (.ref D), some (.int ((at_ : Int) + 2)), some (.str g), some (.str t), some (.bl fr), none, none] = [some (.int c), some (.ref p), some (.ref l), some (.ref r), some (.ref dl), some (.int kd), some (.ref D), some (.int (at' : Int)), some (.str g), v9, v10, none, none] ∧ Same H H6 ∧ H6 dl = some (.lst (ds.map V.int)) ∧ H6 D = some (dP es) ∧ at' = 3 + 2 * (n * i) + 2 * (j + 1) ∧ PrB ps (qs.map (·.2)) es ∧
          (∀ g t, g ∈ ps.take i → t ∈ frow ps (qs.map (·.2)) (ks.map (·.2)) g → (g, t) ∈ keys es) ∧ ∀ t, t ∈ ps.take (j + 1) → t ∈ frow ps (qs.map (·.2)) (ks.map (·.2)) g → (g, t) ∈ keys es := fun H6 es6 h1 h2 h3 h4 h5 h6 => by
          refine ⟨some (.str t), some (.bl fr), at_ + 2, es6, by rw [show ((at_ : Int) + 2) = ((at_ + 2 : Nat) : Int) by omega], h1, h2, h3, by omega, h4, fun g' t' hg' ht' => h5 _ (c5 g' t' hg' ht'), fun t' hm ht' => ?_⟩
          rw [take_snoc ht] at hm
          rcases List.mem_append.mp hm with q | q
          · exact h5 _ (e5 t' q ht')
          · rw [List.mem_singleton.mp q] at ht' ⊢
            exact h6 ht'
        refine ⟨_, rfl, _, rfl, ne_strs ⟨_, rfl, ?_⟩⟩
        by_cases c1 : g = t
        · rw [decide_eq_true c1]
          refine iteF (iteF ⟨_, rfl, _, _, rfl, rfl, ?_⟩)
          exact done H5' es s5 l5 d5 B5 (fun _ h => h) fun h => absurd c1 (frow_may h).1
        · rw [decide_eq_false c1]
          refine iteT ⟨_, rfl, _, rfl, by show 2 ≤ sizeLine; decide, fun b hb => ⟨_, rfl, ?_⟩⟩
          have s6 : Same H5' (upd H5' b (.tup [.str g, .str t])) := Same.new hb
          have W6 := W.same (s5.trans s6)
          refine nin_pairs (q := (g, t)) upd_same W6.hl W6.hq (ok.nm g gin) (ok.nm t tin) nq ⟨_, rfl, ?_⟩
          have l6 := s6 _ _ l5
          have d6 := s6 _ _ d5
          have s06 := s5.trans s6
          clear W6
          generalize upd H5' b (.tup [.str g, .str t]) = H6 at s6 l6 d6 s06 ⊢
          by_cases c2 : (g, t) ∈ qs.map (·.2)
          · rw [decide_eq_true c2]
            refine iteF (iteF ⟨_, rfl, _, _, rfl, rfl, ?_⟩)
            exact done H6 es s06 l6 d6 B5 (fun _ h => h) fun h => absurd c2 (frow_may h).2
          · rw [decide_eq_false c2]
            refine iteT ⟨_, rfl, fr, rfl, ?_⟩
            have e3 : (at_ : Int) + 1 = ((at_ + 1 : Nat) : Int) := by omega
            cases fr with
            | true =>
              refine iteT (iteT ?_)
              refine ⟨_, rfl, _, rfl, dl, _, _, _, rfl, rfl, SqL.of l6, atI_ints a1, _, rfl, _, rfl, _, _, rfl, rfl, dl, _, _, _, rfl, rfl, SqL.of l6, by rw [e3]; exact atI_ints a2, _, rfl, ?_⟩
              refine ⟨_, _, kd, rfl, ba1, ba2, fun v v0 v1 => ?_⟩
              refine ⟨_, rfl, _, rfl, _, rfl, by show 2 ≤ sizeLine; decide, fun b7 hb7 => ?_⟩
              have s7 : Same H6 (upd H6 b7 (.tup [.str g, .str t])) := Same.new hb7
              have q7 := dput_t (h := V.int) (b := b7) (x := (g, t)) (s7 _ _ d6) upd_same v (sz1000 (by have := lenE B5; omega))
              refine ⟨D, _, rfl, q7, _, rfl, _, _, rfl, rfl, ?_⟩
              exact done _ (put es (g, t) v) (Same.mut (s06.trans s7) hD0) (by rw [upd_ne ndD]; exact s7 _ _ l6) upd_same (B5.put ⟨c1, gin, tin, c2⟩ ⟨v0, v1⟩) (fun q h => mem_keys_put.mpr (.inr h)) fun _ => mem_keys_put.mpr (.inl rfl)
            | false =>
              have tno : t ∉ frow ps (qs.map (·.2)) (ks.map (·.2)) g := of_decide_eq_false hfr
              refine iteF ⟨_, rfl, _, rfl, dl, _, _, _, rfl, rfl, SqL.of l6, atI_ints a1, .inl ⟨_, rfl, _, _, rfl, rfl, by show (0 : Int) < 3; decide, _, _, rfl, rfl, _, rfl, ?_⟩⟩
              by_cases lt : (0 : Int) < ds[at_] % 3
              · rw [decide_eq_true lt]
                refine iteT ?_
                refine ⟨_, rfl, _, rfl, dl, _, _, _, rfl, rfl, SqL.of l6, atI_ints a1, _, rfl, _, rfl, _, _, rfl, rfl, dl, _, _, _, rfl, rfl, SqL.of l6, by rw [e3]; exact atI_ints a2, _, rfl, ?_⟩
                refine ⟨_, _, kd, rfl, ba1, ba2, fun v v0 v1 => ?_⟩
                refine ⟨_, rfl, _, rfl, _, rfl, by show 2 ≤ sizeLine; decide, fun b7 hb7 => ?_⟩
                have s7 : Same H6 (upd H6 b7 (.tup [.str g, .str t])) := Same.new hb7
                have q7 := dput_t (h := V.int) (b := b7) (x := (g, t)) (s7 _ _ d6) upd_same v (sz1000 (by have := lenE B5; omega))
                refine ⟨D, _, rfl, q7, _, rfl, _, _, rfl, rfl, ?_⟩
                exact done _ (put es (g, t) v) (Same.mut (s06.trans s7) hD0) (by rw [upd_ne ndD]; exact s7 _ _ l6) upd_same (B5.put ⟨c1, gin, tin, c2⟩ ⟨v0, v1⟩) (fun q h => mem_keys_put.mpr (.inr h)) fun _ => mem_keys_put.mpr (.inl rfl)
              · rw [decide_eq_false lt]
                refine iteF ⟨_, rfl, _, _, rfl, rfl, ?_⟩
                exact done H6 es s06 l6 d6 B5 (fun _ h => h) fun h => absurd h tno
      · rintro σ H5 ⟨v9, v10, at_, es, rfl, s5, l5, d5, at5, B5, c5, e5⟩
        rw [List.length_map] at at5 e5
        rw [List.take_length] at e5
        refine ⟨_, v9, v10, at_, es, rfl, s5, l5, d5, by rw [at5, hn, Nat.mul_add]; omega, B5, fun g' t' hg' ht' => ?_⟩
        rw [take_snoc hg] at hg'
        rcases List.mem_append.mp hg' with q | q
        · exact c5 g' t' q ht'
        · rw [List.mem_singleton.mp q] at ht' ⊢
          exact e5 t' (mem_srt.mp (List.mem_filter.mp (List.mem_filter.mp ht').1).1) ht'
    · rintro σ H4 ⟨v8, v9, v10, at_, es, rfl, s4, l4, d4, at4, B4, c4⟩
      rw [List.length_map, List.take_length] at c4
      -- what is told at the end
      have fin : ∀ (H5 : Hp) (es5 : List ((Str × Str) × Int)), Same H H5 → H5 D = some (dP es5) → PrB ps (qs.map (·.2)) es5 → (∀ q, q ∈ keys es → q ∈ keys es5) → Q (.ref D) H5 := fun H5 es5 s5 d5 B5 sub => by
        refine k H5 D es5 (fun g t => (gt es5 (g, t)).getD 0) s5 hD0 d5 ⟨B5.nd, B5.op, fun g t hg ht => ?_, B5.rng, lenE B5⟩
        obtain ⟨v, e⟩ := gt_key_some (sub _ (c4 g t hg ht))
        rw [e]
        rfl
      refine ⟨_, rfl, dl, _, (1 : Nat), _, rfl, rfl, SqL.of l4, atI_ints i1, .inl ⟨_, rfl, _, _, rfl, rfl, by show (0 : Int) < 4; decide, rfl, _, rfl, ?_⟩⟩
      by_cases cc : V.int (ds[1] % 4) = V.int 0
      · rw [decide_eq_true cc]
        refine iteT ?_
        refine ⟨_, rfl, dl, _, (2 : Nat), _, rfl, rfl, SqL.of l4, atI_ints i2, _, rfl, dl, _, (1 : Nat), _, rfl, rfl, SqL.of l4, atI_ints i1, _, rfl, ?_⟩
        refine ⟨_, _, kd, rfl, b2, b1, fun lv v0 v1 => ?_⟩
        refine ⟨_, rfl, D, _, rfl, .inl d4, fun a bs ha hk => ?_⟩
        obtain ⟨ps2, e2, q2, k2'⟩ := isKeys_pairs hk
        rw [e2]
        have s5 := Same.new' (o := .lst (refs ps2)) s4 ha
        have a5 : SqL K (upd H4 a (.lst (refs ps2))) a (refs ps2) := SqL.of upd_same
        have aa : (upd H4 a (.lst (refs ps2))) a = some (.lst (refs ps2)) := upd_same
        have d5 : (upd H4 a (.lst (refs ps2))) D = some (dP es) := Same.new ha _ _ d4
        have q5 := q2.same (Same.new (o := .lst (refs ps2)) ha)
        have aD : a ≠ D := fun e => by rw [e, d4] at ha; cases ha
        generalize upd H4 a (.lst (refs ps2)) = H5 at s5 a5 aa d5 q5 ⊢
        refine ⟨a, rfl, ⟨_, a5⟩, for_w (Wk.list (xs := refs ps2)) (fun i σ H' => ∃ (v12 : Option V) (es5 : List ((Str × Str) × Int)), σ = [some (.int c), some (.ref p), some (.ref l), some (.ref r), some (.ref dl), some (.int kd), some (.ref D), some (.int (at_ : Int)), v8, v9, v10, some (.int lv), v12] ∧ Same H H' ∧ But [D] H5 H' ∧ H' D = some (dP es5) ∧ PrB ps (qs.map (·.2)) es5 ∧ ∀ q, q ∈ keys es → q ∈ keys es5)
          ⟨none, es, rfl, s5, But.refl _ _, d5, B4, fun _ h => h⟩ (fun i σ H' _ ⟨_, _, _, _, b, _⟩ => .inl (.inl (b _ _ (by simp [aD]) aa))) ?_ ?_⟩
        · rintro i y σ H6 H6' hi ⟨v12, es5, rfl, s6, b6, d6, B6, sub6⟩ ⟨rfl, hy⟩
          obtain ⟨q, hqq, rfl⟩ := refs_get hy
          have qm := List.mem_of_getElem? hqq
          have q6 : H6' q.1 = some (.tup [.str q.2.1, .str q.2.2]) := b6 _ _ (fun m => by
            have e := q5 q qm
            rw [List.mem_singleton.mp m, d5] at e
            cases e) (q5 q qm)
          have qk : q.2 ∈ keys es := by rw [← k2']; exact List.mem_map.mpr ⟨q, qm, rfl⟩
          obtain ⟨v, ev⟩ := gt_key_some (sub6 _ qk)
          have g6 := dget_t (x := q.2) (.inl d6) q6
          rw [ev] at g6
          refine ⟨_, rfl, _, rfl, D, _, rfl, g6, _, rfl, _, _, rfl, rfl, _, rfl, ?_⟩
          by_cases lt : lv < v
          · rw [decide_eq_true lt]
            refine iteT ⟨_, rfl, _, rfl, _, rfl, D, _, rfl, dput_t (h := V.int) d6 q6 lv (sz1000 (by have := lenE B6; omega)), ?_⟩
            exact ⟨_, put es5 q.2 lv, rfl, Same.mut s6 hD0, b6.trans (But.at (by simp)), upd_same, B6.put (B4.op q.2 qk) ⟨v0, v1⟩, fun z hz => mem_keys_put.mpr (.inr (sub6 z hz))⟩
          · rw [decide_eq_false lt]
            exact iteF ⟨_, es5, rfl, s6, b6, d6, B6, sub6⟩
        · rintro σ H6 ⟨v12, es5, rfl, s6, b6, d6, B6, sub6⟩
          exact ⟨_, rfl, fin H6 es5 s6 d6 B6 sub6⟩
      · rw [decide_eq_false cc]
        exact iteF ⟨_, rfl, fin H4 es s4 d4 B4 fun _ h => h⟩
end
end GF

/- GVals -/
set_option Elab.async false
set_option linter.all false
set_option maxRecDepth 100000
set_option maxHeartbeats 4000000
/-! list(d.values()), d a dict with tuples as keys. -/
namespace GF
open PySem PySem.Spec PyProof.Rows L2 GR
def tListVals (te : TE) : TE := fun σ H Q => te σ H fun x H1 => ∃ d kvs, x = .ref d ∧ Rd H1 d (.dT kvs) ∧ ∀ p, H1 p = none → Q (.ref p) (upd H1 p (.lst (kvs.map (·.2))))
theorem kt_vals {H : Hp} {kvs : List (List Key × V)} {xs : List (List Key × Addr × Value)} (r : KT H kvs xs) : Vals (kvs.map (·.2)) (xs.map fun x => x.2.2) := by
  induction r with
  | nil => exact .nil
  | cons h t ih => exact .cons h.2.2 ih
section
variable {X : Cx} {e : Expr} {te : TE} {p apos cpos pos : Pos}
theorem pe_listVals (hc : X.calm = true) (he : PE X e te) (hg : Gl X "list") (hm : X.mg "list" = none) (hv : bootBuiltins "list" = some (.type "list")) (hbase : attributeBase e "values" X.env (eval e X.env) = eval e X.env := by rfl) (hline : (apos.endLine == cpos.line) = true := by rfl)
    (hs : starEach [.Call (.Attribute e "values" apos) [] [] cpos] X.env = (false, eval (.Call (.Attribute e "values" apos) [] [] cpos) X.env) :: starEach [] X.env := by rfl) :
    PE X (.Call (.Name "list" p) [.Call (.Attribute e "values" apos) [] [] cpos] [] pos) (tListVals te) := by
  refine ⟨fun pins s σ H Q I hq => ?_⟩
  refine wpAny_Call_Name_kw (ld_blt I hg hm hv ?_)
  refine PyProof.Rows.callWith_type1 ?_ hs rfl
  rw [hs]
  show wpAny _ _ (spliced ((false, eval (.Call (.Attribute e "values" apos) [] [] cpos) X.env) :: backTo pos (starEach [] X.env))) _ _ s
  refine Calls.spliced_cons ?_
  refine wpAny_Call_method (T := "dict") (id := "dict.values") hbase rfl hline F.plainAttrs_dict F.slot_dict_values F.type_dict_values (thn (he.run pins s σ H _ I hq) fun u s1 ⟨x, H1, I1, rx, d, kvs, ex, hd, q⟩ => ?_)
  subst ex
  obtain rfl : u = Value.ref d := rx
  obtain ⟨t1, t2, _⟩ := isD_at I1 (.inr ⟨kvs, hd⟩)
  obtain ⟨z, hs0, ks, pr, o, es, ep, ho, hx, hdt, hes, hn⟩ := (show ObjOk X.prog X.w H1 s1.heap d (.dT kvs) from hd.ok I1.hok)
  have l1 : es.size = ks.length := size_of_entries hes
  have l2 : kvs.length = ks.length := Paired.length pr
  have I2 : Inv X pins σ H1 { s1 with heap := s1.heap.push { cls := .type "dict_values", data := .fields #[.ref d] } } := I1.kept (t' := s1.toks) fun b ob q => Heap.get?_push_of_some _ q
  refine ⟨t1, t2, ?_⟩
  show wpAny _ _ (callWith cpos (.builtin "dict.values") [.ref d] [] []) _ X.xe s1
  refine method_meetsIn F.slot_dict_values F.entry_dict_values rfl (PySem.evalArgs_none ⟨rfl, t1, F.args_dict_values_1 _, _, meets_dict_values_raw d hs0, ⟨es, ep, o, ho, hx, hdt⟩, ?_⟩)
  refine Calls.spliced_nil ?_
  refine PySem.W.kdl_call (PySem.KdlSrc.rawValues (es := es) (ep := ep)) (I1.ok.hd hc) ⟨⟨_, Heap.get?_push_size _ rfl, rfl, rfl⟩, ⟨o, Heap.get?_push_of_some _ ho, hx, hdt⟩⟩ (by omega) fun h' tk acc' c' kp e it => ?_
  have ea : acc'.toList = ks.map fun x => x.2.2 := by
    have hl : acc'.toList.length = ks.length := by rw [Array.length_toList, it.1]; exact l1
    apply List.ext_getElem?
    intro j
    rw [List.getElem?_map]
    cases hj : acc'.toList[j]? with
    | none =>
      have h1 := List.getElem?_eq_none_iff.mp hj
      rw [List.getElem?_eq_none (by omega)]
      all_goals rfl
    | some v =>
      obtain ⟨hi, hv'⟩ := it.2 j v (by rw [← Array.getElem?_toList]; exact hj)
      have qe := entry_at hes j
      rw [Array.getElem?_eq_getElem hi] at qe
      cases hb : ks[j]? with
      | none =>
        rw [hb] at qe
        exact nomatch (show some es[j] = none from qe)
      | some b =>
        rw [hb] at qe
        have e2 : es[j] = entryOfKey (tupleKind (mixKind X.prog X.w)) b := Option.some.inj qe
        rw [hv', e2]
        all_goals rfl
  have hz : (kvs.map (·.2)).length ≤ sizeLine := by rw [List.length_map]; omega
  refine ⟨.ref (s1.heap.push { cls := .type "dict_values", data := .fields #[.ref d] }).objs.size, _, I2.laid (t' := tk) (o := .lst (kvs.map (·.2))) kp (Nat.le_refl _) ?_, rfl, q _ (I2.hok.fresh (Nat.le_refl _))⟩
  exact ⟨hz, acc'.toList, c', by rw [ea]; exact kt_vals pr, by rw [Array.toArray_toList]; exact e⟩
end
end GF

/- LJudge -/
set_option Elab.async false
set_option linter.all false
set_option maxRecDepth 100000
set_option maxHeartbeats 4000000
namespace GF
open PySem PySem.Spec PyProof.Rows L2 GR
def spGof : Sp := fun vs H Q _ => ∃ (d t : Addr) (ps : List Str) (f : Str → Str) (es : List ((Str × Str) × Int)) (pr : Str → Str → Int), vs = [.ref d, .ref t] ∧ Rd H d (dP es) ∧ H t = some (dF ps f) ∧ ps ≠ [] ∧ ps.length ≤ 24 ∧ (∀ g, g ∈ ps → gt es (g, f g) = some (pr g (f g))) ∧
  ∀ H' m, Same H H' → (∃ g, g ∈ ps ∧ m = pr g (f g)) → (∀ g, g ∈ ps → pr g (f g) ≤ m) → Q (.int m) H'
abbrev nGof : List Str := ["_law_prices_here", "_law_takers", "_law_a"]
theorem scGof : FnScope nGof ["_law_prices_here", "_law_takers"] dLawGreatestOf.scope := ⟨rfl, rfl, rfl, by decide +kernel, rfl, by decide +kernel, by decide +kernel⟩
def spIsD (K : PySem.W.Frag) : Sp := fun vs H Q _ => ∃ (t p r : Addr) (ps : List Str) (f : Str → Str) (ad : Str → Addr) (rw_ : Str → List Str), vs = [.ref t, .ref p, .ref r] ∧ H t = some (dF ps f) ∧ H p = some (.lst (ps.map V.str)) ∧ PeopleOk ps ∧ RowsU H r ps ad rw_ ∧ PM ps rw_ f ∧
  ∀ H', Same H H' → Q (.bl true) H'
abbrev nIsD : List Str := ["_law_thing", "_law_people_here", "_law_rows_here", "_law_used", "_law_a", "_law_b"]
theorem scIsD : FnScope nIsD ["_law_thing", "_law_people_here", "_law_rows_here"] dLawIsDrawing.scope := ⟨rfl, rfl, rfl, by decide +kernel, rfl, by decide +kernel, by decide +kernel⟩
def spEq0 : Sp := fun vs H Q _ => (∃ a b : Int, vs = [.int a, .int b] ∧ Q (.bl (decide (a = b))) H) ∨ ∃ a b : Str, vs = [.str a, .str b] ∧ Q (.bl (decide (a = b))) H
def spEq1 (K : PySem.W.Frag) : Sp := fun vs H Q _ => ∃ (a b : Addr) (xs : List Str), vs = [.ref a, .ref b] ∧ SqT K H a (xs.map V.str) ∧ SqT K H b (xs.map V.str) ∧ xs.length ≤ 1000 ∧ ∀ H', Same H H' → Q (.bl true) H'
abbrev nEq : List Str := ["_law_actual", "_law_due", "_law_k", "_law_key"]
theorem scEq : FnScope nEq ["_law_actual", "_law_due"] dLawEqual.scope := ⟨rfl, rfl, rfl, by decide +kernel, rfl, by decide +kernel, by decide +kernel⟩
theorem dint (a b : Int) : decide (V.int a = V.int b) = decide (a = b) := decide_eq_decide.mpr ⟨fun h => by cases h; rfl, fun h => by rw [h]⟩
section
variable {P : Program} {w : World} {K : PySem.W.Frag} {mg : Str → Option Value} {base : Heap}
theorem ok_gof (T : Tx K mg) : Ok P w K mg base CX0 1 dLawGreatestOf ["_law_prices_here", "_law_takers"] spGof := by
  refine Ok.mk0 T _ ixLawGreatestOf scGof (fun _ _ _ _ _ _ us hl => match us, hl with | [_, _], _ => rfl) (fun vs H Q E h => ?_) (fun f cdv A outer st H vs Q E hr h => ?_)
  · obtain ⟨d, dd, ps, f, es, pr, rfl, _⟩ := h
    rfl
  · have hu := hu_of hr
    obtain ⟨d, dd, ps, f, es, pr, rfl, hd, hdd, ne, few, al, k⟩ := h
    refine ⟨_, pss_one (ps_ret (pe_callB (cr_max rfl) (by rfl) T.f_max (by decide +kernel) (pa_cons (pe_lock (pe_lc (own := [("_law_a", 2)]) (g := gName 2) (tt := tYes) rfl scGof.nd (pi_keys (pv 1)) (blkOk_by (N := nGof) (sc := dLawGreatestOf.scope) (by decide +kernel))
          (fun _ _ _ _ _ => pg_name (i := 2) scGof.nd rfl (.inl rfl)) (fun _ _ _ _ _ => pts_nil) (fun _ _ _ _ _ => pe_dget hu (pv 0) (pe_tup (pa_cons (pv 2) (pa_cons (pe_dget hu (pv 1) (pv 2) (fun _ _ => rfl)) pa_nil))) (fun _ _ => rfl)))) pa_nil))), ?_⟩
    refine ⟨dd, _, hdd, trivial, fun od => ?_⟩
    generalize eF : upd H dd (.frz od (dF ps f)) = Hf
    have frz : Hf dd = some (.frz od (dF ps f)) := by rw [← eF]; exact upd_same
    have hdf : Rd Hf d (dP es) := by rw [← eF]; exact (Lq.lock od hdd trivial).rd _ _ trivial hd
    refine ⟨_, rfl, dd, od, rfl, .inl ⟨_, frz, fun D hD => ?_⟩⟩
    have nD : D ≠ dd := fun e => by rw [e, frz] at hD; cases hD
    refine lco_w Wk.keys (fun i H' => Same Hf H' ∧ H' D = some (.lst (((ps.take i).map fun g => pr g (f g)).map V.int))) ⟨Same.new hD, upd_same⟩ (fun i H' _ p => p.1 _ _ frz) ?_ ?_
    · rintro i y H2 H2' hi ⟨s2, d2⟩ ⟨rfl, p, hp, rfl⟩
      obtain ⟨g, hg, rfl⟩ : ∃ g, ps[i]? = some g ∧ p = (g, f g) := by
        rw [List.getElem?_map] at hp
        cases e : ps[i]? with
        | none => rw [e] at hp; cases hp
        | some g => rw [e] at hp; exact ⟨g, rfl, (Option.some.inj hp).symm⟩
      have gin := List.mem_of_getElem? hg
      have q1 := dget_s (l := ps.map fun g => (g, f g)) (h := V.str) (.inr ⟨od, s2 _ _ frz⟩) g
      rw [gt_fn, if_pos gin] at q1
      refine ⟨rfl, yesT ?_⟩
      refine ⟨_, rfl, _, rfl, _, rfl, _, rfl, dd, _, rfl, q1, by show 2 ≤ sizeLine; decide, fun a ha => ?_⟩
      have s3 := Same.new' (o := .tup [.str g, .str (f g)]) s2 ha
      have q2 := dget_t (x := (g, f g)) (b := a) ((Lq.of s3).rd _ _ trivial hdf) upd_same
      rw [al g gin] at q2
      refine ⟨d, _, rfl, q2, _, Same.new ha _ _ d2, ?_, Same.mut s3 hD, ?_⟩
      · rw [List.length_map, List.length_map, List.length_take]
        exact sz1000 (by omega)
      · rw [upd_same, take_snoc hg, List.map_append, List.map_append]
        rfl
    · rintro H2 ⟨s2, d2⟩
      rw [List.length_map, List.take_length] at d2
      refine ⟨s2 _ _ frz, D, _, rfl, SqL.of (by rw [upd_ne nD]; exact d2), ?_, fun m hm hall => ?_⟩
      · rw [List.length_map]
        exact List.length_pos_iff.mpr ne
      · obtain ⟨g, hg, e⟩ := List.mem_map.mp hm
        exact k _ m (Same.unlock hdd (by rw [eF]; exact s2)) ⟨g, hg, e.symm⟩ fun g' hg' => hall _ (List.mem_map.mpr ⟨g', hg', rfl⟩)
theorem ok_isd (T : Tx K mg) : Ok P w K mg base CX0 1 dLawIsDrawing ["_law_thing", "_law_people_here", "_law_rows_here"] (spIsD K) := by
  refine Ok.mk0 T _ ixLawIsDrawing scIsD (fun _ _ _ _ _ _ us hl => match us, hl with | [_, _, _], _ => rfl) (fun vs H Q E h => ?_) (fun f cdv A outer st H vs Q E hr h => ?_)
  · obtain ⟨t, p, r, ps, f, ad, rw_, rfl, _⟩ := h
    rfl
  · have hu := hu_of hr
    obtain ⟨t, p, r, ps, f, ad, rw_, rfl, ht, hp, ok, R, pm, k⟩ := h
    refine ⟨_, pss_cons (ps_if (PW.pt (pw_or (pt_not (pt_val (pe_callB call_isi (by rfl) T.f_isinstance (by decide +kernel) (pa_cons (pv 0) (pa_cons (pe_bltn (v := .ty "dict") (by rfl) T.f_dict (by decide +kernel) rfl) pa_nil)))))
          (pw_or1 (pt_cmpR op_ne (pe_callB call_lenD (by rfl) T.f_len (by decide +kernel) (pa_cons (pv 0) pa_nil)) (pe_callB call_len (by rfl) T.f_len (by decide +kernel) (pa_cons (pv 1) pa_nil)) (nomark _))))) (pss_one (ps_ret pe_bl)) pss_nil)
      (pss_cons (ps_set (i := 3) scIsD.nd rfl (.inl rfl) (pe_lst pa_nil))
      (pss_cons (ps_for PassesOwn.never rfl (pi_list (pv 1)) (pg_name (i := 4) scIsD.nd rfl (.inl rfl))
        (pss_cons (ps_if (pt_cmp (pc_dnotin hu (pv 4) (pv 0)) rfl) (pss_one (ps_ret pe_bl)) pss_nil)
        (pss_cons (ps_set (i := 5) scIsD.nd rfl (.inl rfl) (pe_dget hu (pv 0) (pv 4) (fun _ _ => rfl)))
        (pss_cons (ps_if (PW.pt (pw_or (pt_not (pt_val (pe_callB call_isi (by rfl) T.f_isinstance (by decide +kernel) (pa_cons (pv 5) (pa_cons (pe_bltn (v := .ty "str") (by rfl) T.f_str (by decide +kernel) rfl) pa_nil)))))
            (pw_or (pt_cmpR op_notIn_seq (pv 5) (pe_dget hu (pv 2) (pv 4) (fun _ _ => rfl)) rfl) (pw_or1 (pt_cmpR op_in_seq (pv 5) (pv 3) rfl))))) (pss_one (ps_ret pe_bl)) pss_nil)
        (pss_one (ps_expr (pe_bm PySem.F.plainAttrs_list PySem.F.slot_list_append PySem.F.type_list_append mt_append (pv 3) (pa_cons (pv 5) pa_nil))))))))
      (pss_one (ps_ret pe_bl)))), ?_⟩
    refine ⟨_, rfl, _, _, _, _, true, rfl, .ty _, .base (.dK ht), kit_ty (by decide +kernel), true, rfl, iteF ?_⟩
    refine ⟨_, rfl, t, _, rfl, ht, _, rfl, _, ps.length, rfl, len_go (SqL.of hp), rfl, _, rfl, ?_⟩
    have e0 : V.int ((mp ks V.str (ps.map fun g => (g, f g))).length : Int) = V.int (ps.length : Int) := by rw [mp_len, List.length_map]
    rw [decide_eq_true e0]
    refine iteF ⟨by decide, fun D hD => ?_⟩
    have s1 : Same H (upd H D (.lst [])) := Same.new hD
    refine ⟨_, rfl, p, rfl, ⟨_, s1.seq (SqL.of hp)⟩, for_w (Wk.list (xs := ps.map V.str)) (fun i σ H' => ∃ v4 v5, σ = [some (.ref t), some (.ref p), some (.ref r), some (.ref D), v4, v5] ∧ Same H H' ∧ H' D = some (.lst (((ps.take i).map f).map V.str))) ⟨none, none, rfl, s1, upd_same⟩ (fun i σ H' _ ⟨_, _, _, s, _⟩ => s.seq (SqL.of hp)) ?_ ?_⟩
    · rintro i y σ H2 H2' hi ⟨v4, v5, rfl, s2, d2⟩ ⟨rfl, hy⟩
      obtain ⟨g, hg, rfl⟩ := map_get hy
      have gin : g ∈ ps := List.mem_of_getElem? hg
      have q1 := dget_s (l := ps.map fun g => (g, f g)) (h := V.str) (.inl (s2 _ _ ht)) g
      rw [gt_fn, if_pos gin] at q1
      refine ⟨_, rfl, _, rfl, t, _, rfl, q1, _, rfl, iteF ?_⟩
      refine ⟨_, rfl, _, rfl, t, _, rfl, q1, ?_⟩
      refine ⟨_, rfl, _, _, _, _, true, rfl, .ty _, tyS (f g), kit_ty (by decide +kernel), true, rfl, iteF ?_⟩
      refine ⟨_, rfl, _, rfl, _, rfl, r, _, rfl, (R.at.same s2).get gin, nin_strs (.inl ((R.at.same s2).seq gin)) ⟨_, rfl, ?_⟩⟩
      rw [decide_eq_true (pm.ok g gin)]
      refine iteF ⟨_, rfl, _, rfl, in_strs (.inl (SqL.of d2)) ⟨_, rfl, ?_⟩⟩
      have nin : f g ∉ (ps.take i).map f := fun m => by
        obtain ⟨g', hg', e⟩ := List.mem_map.mp m
        have := pm.inj g' g (List.mem_of_mem_take hg') gin e
        exact not_mem_take ok.nd hg (this ▸ hg')
      rw [decide_eq_false nin]
      refine iteF ⟨_, rfl, .inl ⟨rfl, _, SqL.of d2⟩, _, rfl, D, _, _, rfl, rfl, d2, ?_, ?_⟩
      · rw [List.length_map, List.length_map, List.length_take]
        have := ok.hi
        exact sz1000 (by omega)
      · exact ⟨_, _, rfl, Same.mut s2 hD, by rw [upd_same, take_snoc hg, List.map_append, List.map_append]; rfl⟩
    · rintro σ H2 ⟨v4, v5, rfl, s2, d2⟩
      exact k H2 s2
end
end GF

/- LLack -/
set_option Elab.async false
set_option linter.all false
set_option maxRecDepth 100000
set_option maxHeartbeats 4000000
namespace GF
open PySem PySem.Spec PyProof.Rows L2 GR
theorem call_isiK2 {X : Cx} {K : PySem.W.Frag} (hK : X.K = K) : CallR X (.builtin "isinstance") (rIsi K) := by
  subst hK
  exact call_isi
def spIsLack (K : PySem.W.Frag) : Sp := fun vs H Q _ => ∃ (p r d a t1 t2 : Addr) (bd : Int) (ps : List Str) (ad : Str → Addr) (rw_ : Str → List Str) (es : List ((Str × Str) × Int)) (pr : Str → Str → Int) (lot ts nb : List Str), vs = [.ref p, .ref r, .ref d, .ref a, .int bd] ∧
  H p = some (.lst (ps.map V.str)) ∧ PeopleOk ps ∧ RowsU H r ps ad rw_ ∧ RowOk ps rw_ ∧ Rd H d (dP es) ∧ (∀ g t, g ∈ ps → t ∈ rw_ g → gt es (g, t) = some (pr g t)) ∧ H a = some (.tup [.ref t1, .ref t2]) ∧ H t1 = some (.tup (lot.map V.str)) ∧ H t2 = some (.tup (ts.map V.str)) ∧
  Srt lot ∧ Hall ps (upTo rw_ pr (bd - 1)) lot nb ∧ Srt ts ∧ (∀ t, t ∈ ts ↔ ∃ g, g ∈ lot ∧ t ∈ upTo rw_ pr (bd - 1) g) ∧ ∀ H', Same H H' → Q (.bl true) H'
abbrev nIsLack : List Str := ["_law_people_here", "_law_rows_here", "_law_prices_here", "_law_lot_here", "_law_bound", "_law_givers", "_law_k", "_law_takers", "_law_a", "_law_b"]
theorem scIsLack : FnScope nIsLack ["_law_people_here", "_law_rows_here", "_law_prices_here", "_law_lot_here", "_law_bound"] dLawIsLack.scope := ⟨rfl, rfl, rfl, by decide +kernel, rfl, by decide +kernel, by decide +kernel⟩
section
variable {P : Program} {w : World} {K : PySem.W.Frag} {mg : Str → Option Value} {base : Heap}
theorem ok_eq0 (T : Tx K mg) : Ok P w K mg base CX0 1 dLawEqual ["_law_actual", "_law_due"] spEq0 := by
  refine Ok.mk0 T _ ixLawEqual scEq (fun _ _ _ _ _ _ us hl => match us, hl with | [_, _], _ => rfl) (fun vs H Q E h => ?_) (fun f cdv A outer st H vs Q E hr h => ?_)
  · rcases h with ⟨a, b, rfl, _⟩ | ⟨a, b, rfl, _⟩ <;> rfl
  · refine ⟨_, pss_cons (ps_if (PW.pt (pw_or (pt_val (pe_callB call_isi (by rfl) T.f_isinstance (by decide +kernel) (pa_cons (pv 1) (pa_cons (pe_bltn (v := .ty "list") (by rfl) T.f_list (by decide +kernel) rfl) pa_nil)))) (pw_or1 (pt_val (pe_callB call_isi (by rfl) T.f_isinstance (by decide +kernel) (pa_cons (pv 1) (pa_cons (pe_bltn (v := .ty "tuple") (by rfl) T.f_tuple (by decide +kernel) rfl) pa_nil))))))) pss_never pss_nil)
      (pss_cons (ps_if (pt_val (pe_callB call_isi (by rfl) T.f_isinstance (by decide +kernel) (pa_cons (pv 1) (pa_cons (pe_bltn (v := .ty "dict") (by rfl) T.f_dict (by decide +kernel) rfl) pa_nil)))) pss_never pss_nil)
      (pss_cons (ps_if (pt_val (pe_callB call_isi (by rfl) T.f_isinstance (by decide +kernel) (pa_cons (pv 1) (pa_cons (pe_bltn (v := .ty "bool") (by rfl) T.f_bool (by decide +kernel) rfl) pa_nil)))) pss_never pss_nil)
      (pss_cons (ps_if (pt_val (pe_callB call_isi (by rfl) T.f_isinstance (by decide +kernel) (pa_cons (pv 1) (pa_cons (pe_bltn (v := .ty "str") (by rfl) T.f_str (by decide +kernel) rfl) pa_nil))))
        (pss_one (ps_ret (pe_and (pe_callB call_isi (by rfl) T.f_isinstance (by decide +kernel) (pa_cons (pv 0) (pa_cons (pe_bltn (v := .ty "str") (by rfl) T.f_str (by decide +kernel) rfl) pa_nil))) (pe_one (pe_cmpR op_eq (pv 0) (pv 1) (nomark _)))))) pss_nil)
      (pss_cons (ps_if (pt_val (pe_callB call_isi (by rfl) T.f_isinstance (by decide +kernel) (pa_cons (pv 1) (pa_cons (pe_bltn (v := .ty "int") (by rfl) T.f_int (by decide +kernel) rfl) pa_nil))))
        (pss_one (ps_ret (pe_and (pe_callB call_isi (by rfl) T.f_isinstance (by decide +kernel) (pa_cons (pv 0) (pa_cons (pe_bltn (v := .ty "int") (by rfl) T.f_int (by decide +kernel) rfl) pa_nil)))
          (pe_and (pe_not (pe_callB call_isi (by rfl) T.f_isinstance (by decide +kernel) (pa_cons (pv 0) (pa_cons (pe_bltn (v := .ty "bool") (by rfl) T.f_bool (by decide +kernel) rfl) pa_nil)))) (pe_one (pe_cmpR op_eq (pv 0) (pv 1) (nomark _))))))) pss_nil)
      (pss_one ps_never))))), ?_⟩
    rcases h with ⟨a, b, rfl, k⟩ | ⟨a, b, rfl, k⟩
    · refine ⟨_, rfl, _, _, _, _, false, rfl, .ty _, .base (.int b), kit_ty (by decide +kernel), false, rfl, iteF ?_⟩
      refine ⟨_, rfl, _, _, _, _, false, rfl, .ty _, .base (.int b), kit_ty (by decide +kernel), false, rfl, iteF ?_⟩
      refine ⟨_, rfl, _, _, _, _, false, rfl, .ty _, .base (.int b), kit_ty (by decide +kernel), false, rfl, iteF ?_⟩
      refine ⟨_, rfl, _, _, _, _, false, rfl, .ty _, .base (.int b), kit_ty (by decide +kernel), false, rfl, iteF ?_⟩
      refine ⟨_, rfl, _, _, _, _, false, rfl, .ty _, .base (.int b), kit_ty (by decide +kernel), false, rfl, iteF ?_⟩
      refine ⟨_, rfl, _, _, _, _, true, rfl, .ty _, .base (.int b), kit_ty (by decide +kernel), true, rfl, iteT ?_⟩
      refine ⟨_, rfl, _, _, _, _, true, rfl, .ty _, .base (.int a), kit_ty (by decide +kernel), true, rfl, iteT ?_⟩
      refine ⟨_, rfl, _, _, _, _, false, rfl, .ty _, .base (.int a), kit_ty (by decide +kernel), false, rfl, true, rfl, iteT ?_⟩
      refine ⟨_, rfl, _, rfl, rfl, ?_⟩
      rw [dint]
      exact k
    · refine ⟨_, rfl, _, _, _, _, false, rfl, .ty _, tyS b, kit_ty (by decide +kernel), false, rfl, iteF ?_⟩
      refine ⟨_, rfl, _, _, _, _, false, rfl, .ty _, tyS b, kit_ty (by decide +kernel), false, rfl, iteF ?_⟩
      refine ⟨_, rfl, _, _, _, _, false, rfl, .ty _, tyS b, kit_ty (by decide +kernel), false, rfl, iteF ?_⟩
      refine ⟨_, rfl, _, _, _, _, false, rfl, .ty _, tyS b, kit_ty (by decide +kernel), false, rfl, iteF ?_⟩
      refine ⟨_, rfl, _, _, _, _, true, rfl, .ty _, tyS b, kit_ty (by decide +kernel), true, rfl, iteT ?_⟩
      refine ⟨_, rfl, _, _, _, _, true, rfl, .ty _, tyS a, kit_ty (by decide +kernel), true, rfl, iteT ?_⟩
      exact ⟨_, rfl, _, rfl, eq_strs k⟩
theorem ok_eq1 (T : Tx K mg) : Ok P w K mg base CX0 2 dLawEqual ["_law_actual", "_law_due"] (spEq1 K) := by
  have S := ok_eq0 (P := P) (w := w) (base := base) T
  refine Ok.mk0 T _ ixLawEqual scEq (fun _ _ _ _ _ _ us hl => match us, hl with | [_, _], _ => rfl) (fun vs H Q E h => ?_) (fun f cdv A outer st H vs Q E hr h => ?_)
  · obtain ⟨a, b, xs, rfl, _⟩ := h
    rfl
  · obtain ⟨a, b, xs, rfl, ha, hb, few, k⟩ := h
    refine ⟨_, pss_cons (ps_if (PW.pt (pw_or (pt_val (pe_callB call_isi (by rfl) T.f_isinstance (by decide +kernel) (pa_cons (pv 1) (pa_cons (pe_bltn (v := .ty "list") (by rfl) T.f_list (by decide +kernel) rfl) pa_nil)))) (pw_or1 (pt_val (pe_callB call_isi (by rfl) T.f_isinstance (by decide +kernel) (pa_cons (pv 1) (pa_cons (pe_bltn (v := .ty "tuple") (by rfl) T.f_tuple (by decide +kernel) rfl) pa_nil)))))))
        (pss_cons (ps_if (PW.pt (pw_and (pt_val (pe_callB call_isi (by rfl) T.f_isinstance (by decide +kernel) (pa_cons (pv 1) (pa_cons (pe_bltn (v := .ty "list") (by rfl) T.f_list (by decide +kernel) rfl) pa_nil)))) (pw_and1 (pt_not (pt_val (pe_callB call_isi (by rfl) T.f_isinstance (by decide +kernel) (pa_cons (pv 0) (pa_cons (pe_bltn (v := .ty "list") (by rfl) T.f_list (by decide +kernel) rfl) pa_nil)))))))) pss_never pss_nil)
        (pss_cons (ps_if (PW.pt (pw_and (pt_val (pe_callB call_isi (by rfl) T.f_isinstance (by decide +kernel) (pa_cons (pv 1) (pa_cons (pe_bltn (v := .ty "tuple") (by rfl) T.f_tuple (by decide +kernel) rfl) pa_nil)))) (pw_and1 (pt_not (pt_val (pe_callB call_isi (by rfl) T.f_isinstance (by decide +kernel) (pa_cons (pv 0) (pa_cons (pe_bltn (v := .ty "tuple") (by rfl) T.f_tuple (by decide +kernel) rfl) pa_nil)))))))) pss_never pss_nil)
        (pss_cons (ps_if (pt_cmpR op_ne (pe_callB call_len (by rfl) T.f_len (by decide +kernel) (pa_cons (pv 0) pa_nil)) (pe_callB call_len (by rfl) T.f_len (by decide +kernel) (pa_cons (pv 1) pa_nil)) (nomark _)) pss_never pss_nil)
        (pss_one (ps_ret (pe_callB (cr_all rfl) (by rfl) T.f_all (by decide +kernel) (pa_cons (pe_lc (own := [("_law_k", 2)]) (g := gName 2) (tt := tYes) rfl scEq.nd (pi_range1 (by rfl) T.f_range (pa_cons (pe_callB call_len (by rfl) T.f_len (by decide +kernel) (pa_cons (pv 1) pa_nil)) pa_nil)) (blkOk_by (N := nEq) (sc := dLawEqual.scope) (by decide +kernel))
          (fun _ _ _ _ _ => pg_name (i := 2) scEq.nd rfl (.inl rfl)) (fun _ _ _ _ _ => pts_nil) (fun _ _ _ _ _ => pc S hr (by decide) T.g__law_equal pass0 (pa_cons (pe_ix (ix_tupK (K := K) rfl) (pv 0) (pv 2) (fun _ _ => rfl)) (pa_cons (pe_ix (ix_tupK (K := K) rfl) (pv 1) (pv 2) (fun _ _ => rfl)) pa_nil)))) pa_nil))))))) pss_nil)
      (pss_never), ?_⟩
    refine ⟨_, rfl, _, _, _, _, false, rfl, .ty _, tyT hb, kit_ty (by decide +kernel), false, rfl, iteF ?_⟩
    refine ⟨_, rfl, _, _, _, _, true, rfl, .ty _, tyT hb, kit_ty (by decide +kernel), true, rfl, iteT ?_⟩
    refine ⟨_, rfl, _, _, _, _, false, rfl, .ty _, tyT hb, kit_ty (by decide +kernel), false, rfl, iteF (iteF ?_)⟩
    refine ⟨_, rfl, _, _, _, _, true, rfl, .ty _, tyT hb, kit_ty (by decide +kernel), true, rfl, iteT ?_⟩
    refine ⟨_, rfl, _, _, _, _, true, rfl, .ty _, tyT ha, kit_ty (by decide +kernel), true, rfl, iteF ?_⟩
    refine ⟨_, rfl, _, xs.length, rfl, .inr ⟨_, ha, by rw [List.length_map]⟩, _, rfl, _, xs.length, rfl, .inr ⟨_, hb, by rw [List.length_map]⟩, rfl, _, rfl, ?_⟩
    rw [decide_eq_true rfl]
    refine iteF ⟨_, rfl, _, xs.length, rfl, .inr ⟨_, hb, by rw [List.length_map]⟩, (xs.length : Int), rfl, by omega, by omega, fun D hD => ?_⟩
    have rg : ((xs.length : Int)).toNat = xs.length := Int.toNat_natCast _
    rw [rg]
    refine lco_w (Wk.range (lo := 0) (n := xs.length)) (fun i H' => Same H H' ∧ H' D = some (.lst ((List.replicate i true).map V.bl))) ⟨Same.new hD, upd_same⟩ (fun _ _ _ _ => trivial) ?_ ?_
    · rintro i y H2 H2' hi ⟨s2, d2⟩ ⟨rfl, rfl⟩
      have z0 : (0 : Int) + (i : Int) = ((i : Nat) : Int) := by omega
      rw [z0]
      refine ⟨rfl, yesT ⟨_, rfl, _, rfl, a, _, _, _, rfl, rfl, ha.sameT s2, atI_strs hi, _, rfl, _, rfl, b, _, _, _, rfl, rfl, hb.sameT s2, atI_strs hi, .inr ⟨_, _, rfl, ?_⟩⟩⟩
      rw [decide_eq_true rfl]
      refine ⟨_, d2, by rw [List.length_map, List.length_replicate]; exact sz1000 (by omega), Same.mut s2 hD, ?_⟩
      rw [upd_same, List.replicate_succ', List.map_append]
      rfl
    · rintro H2 ⟨s2, d2⟩
      refine ⟨D, _, rfl, SqL.of d2, ?_⟩
      have e : (List.replicate xs.length true).all id = true := by
        rw [List.all_eq_true]
        intro z hz
        exact (List.mem_replicate.mp hz).2
      rw [e]
      exact k H2 s2
theorem ok_islack (T : Tx K mg) : Ok P w K mg base CX0 3 dLawIsLack ["_law_people_here", "_law_rows_here", "_law_prices_here", "_law_lot_here", "_law_bound"] (spIsLack K) := by
  have S := ok_eq1 (P := P) (w := w) (base := base) T
  refine Ok.mk0 T _ ixLawIsLack scIsLack (fun _ _ _ _ _ _ us hl => match us, hl with | [_, _, _, _, _], _ => rfl) (fun vs H Q E h => ?_) (fun f cdv A outer st H vs Q E hr h => ?_)
  · obtain ⟨p, r, d, a, t1, t2, bd, ps, ad, rw_, es, pr, lot, ts, nb, rfl, _⟩ := h
    rfl
  · have hu := hu_of hr
    obtain ⟨p, r, d, a, t1, t2, bd, ps, ad, rw_, es, pr, lot, ts, nb, rfl, hp, ok, R, ro, hd, al, ha, ht1, ht2, sl, hall, st', mem, k⟩ := h
    have isT : ∀ {x : V} {H' : Hp} {b : Addr} {xs : List V}, SqT K H' b xs → TyX K H' (.ref b) (.type "tuple") := fun h => tyT h
    refine ⟨_, pss_cons (ps_if (PW.pt (pw_or (pt_not (pt_val (pe_callB call_isi (by rfl) T.f_isinstance (by decide +kernel) (pa_cons (pv 3) (pa_cons (pe_bltn (v := .ty "tuple") (by rfl) T.f_tuple (by decide +kernel) rfl) pa_nil)))))
          (pw_or (pt_cmpR op_ne (pe_callB call_len (by rfl) T.f_len (by decide +kernel) (pa_cons (pv 3) pa_nil)) pe_int (nomark _))
          (pw_or (pt_not (pt_val (pe_callB call_isi (by rfl) T.f_isinstance (by decide +kernel) (pa_cons (pe_ix ix_tup (pv 3) pe_int (fun _ _ => rfl)) (pa_cons (pe_bltn (v := .ty "tuple") (by rfl) T.f_tuple (by decide +kernel) rfl) pa_nil)))))
          (pw_or1 (pt_not (pt_val (pe_callB call_isi (by rfl) T.f_isinstance (by decide +kernel) (pa_cons (pe_ix ix_tup (pv 3) pe_int (fun _ _ => rfl)) (pa_cons (pe_bltn (v := .ty "tuple") (by rfl) T.f_tuple (by decide +kernel) rfl) pa_nil)))))))))) pss_never pss_nil)
      (pss_cons (ps_set (i := 5) scIsLack.nd rfl (.inl rfl) (pe_ix ix_tup (pv 3) pe_int (fun _ _ => rfl)))
      (pss_cons (ps_for PassesOwn.never rfl (pi_range1 (by rfl) T.f_range (pa_cons (pe_callB call_len (by rfl) T.f_len (by decide +kernel) (pa_cons (pv 5) pa_nil)) pa_nil)) (pg_name (i := 6) scIsLack.nd rfl (.inl rfl))
        (pss_one (ps_if (PW.pt (pw_or (pt_cmpR op_notIn_seq (pe_ix ix_tup (pv 5) (pv 6) (fun _ _ => rfl)) (pv 0) rfl) (pw_or1 (PW.pt (pw_and (pt_cmpR op_gt (pv 6) pe_int (nomark _)) (pw_and1 (pt_not (pt_cmpR op_lt_str (pe_ix ix_tup (pv 5) (pe_op op_sub (pv 6) pe_int) (fun _ _ => rfl)) (pe_ix ix_tup (pv 5) (pv 6) (fun _ _ => rfl)) (nomark _))))))))) pss_never pss_nil)))
      (pss_cons (ps_set (i := 7) scIsLack.nd rfl (.inr rfl) (pe_lst pa_nil))
      (pss_cons (ps_for PassesOwn.never rfl (pi_tup (pv 5)) (pg_name (i := 8) scIsLack.nd rfl (.inr rfl))
        (pss_one (ps_expr (pe_bm PySem.F.plainAttrs_list PySem.F.slot_list_extend PySem.F.type_list_extend mt_extend (pv 7) (pa_cons (pe_lc (own := [("_law_b", 9)]) (g := gName 9) rfl scIsLack.nd (pi_list (pe_dget hu (pv 1) (pv 8) (fun _ _ => rfl))) (blkOk_by (N := nIsLack) (sc := dLawIsLack.scope) (by decide +kernel))
          (fun _ _ _ _ _ => pg_name (i := 9) scIsLack.nd rfl (.inl rfl)) (fun _ _ _ _ _ => pts_one (PW.pt (pw_and (pt_cmpR op_lt (pe_dget hu (pv 2) (pe_tup (pa_cons (pv 8) (pa_cons (pv 9) pa_nil))) (fun _ _ => rfl)) (pv 4) (nomark _)) (pw_and1 (pt_cmpR (op_ninK (K := K) rfl) (pv 9) (pv 7) rfl))))) (fun _ _ _ _ _ => pv 9)) pa_nil)))))
      (pss_one (ps_ret (pe_and (pc S hr (by decide) T.g__law_equal pass0 (pa_cons (pe_ix ix_tup (pv 3) pe_int (fun _ _ => rfl)) (pa_cons (pe_callTy (T := "tuple") call_tuple_of (by rfl) T.f_tuple (by decide +kernel) (pa_cons (pe_callB cr_sortedS (by rfl) T.f_sorted (by decide +kernel) (pa_cons (pv 7) pa_nil)) pa_nil)) pa_nil)))
        (pe_one (pe_cmpR op_lt (pe_callB call_len (by rfl) T.f_len (by decide +kernel) (pa_cons (pv 7) pa_nil)) (pe_callB call_len (by rfl) T.f_len (by decide +kernel) (pa_cons (pv 5) pa_nil)) (nomark _)))))))))), ?_⟩
    have hA := SqT.of (K := K) ha
    have h1 := SqT.of (K := K) ht1
    have h2 := SqT.of (K := K) ht2
    have n24 := ok.hi
    refine ⟨_, rfl, _, _, _, _, true, rfl, .ty _, tyT hA, kit_ty (by decide +kernel), true, rfl, iteF ?_⟩
    refine ⟨_, rfl, _, 2, rfl, .inr ⟨_, hA, rfl⟩, rfl, _, rfl, iteF ?_⟩
    refine ⟨_, rfl, a, _, 0, _, rfl, rfl, hA, rfl, _, _, _, _, true, rfl, .ty _, tyT h1, kit_ty (by decide +kernel), true, rfl, iteF ?_⟩
    refine ⟨_, rfl, a, _, 1, _, rfl, rfl, hA, rfl, _, _, _, _, true, rfl, .ty _, tyT h2, kit_ty (by decide +kernel), true, rfl, iteF ?_⟩
    refine ⟨_, rfl, a, _, 0, _, rfl, rfl, hA, rfl, ?_⟩
    have ll : lot.length ≤ 24 := Nat.le_trans (len_le_of_sub hall.nd hall.sub) n24
    refine ⟨_, rfl, _, lot.length, rfl, .inr ⟨_, h1, by rw [List.length_map]⟩, (lot.length : Int), rfl, by omega, by omega, ?_⟩
    have rg : ((lot.length : Int)).toNat = lot.length := Int.toNat_natCast _
    rw [rg]
    refine for_w (Wk.range (lo := 0) (n := lot.length)) (fun i σ H' => H' = H ∧ ∃ v6, σ = [some (.ref p), some (.ref r), some (.ref d), some (.ref a), some (.int bd), some (.ref t1), v6, none, none, none]) ⟨rfl, none, rfl⟩ (fun _ _ _ _ _ => trivial) ?_ ?_
    · rintro i y σ H2 H2' hi ⟨rfl, v6, rfl⟩ ⟨rfl, rfl⟩
      have z0 : (0 : Int) + (i : Int) = ((i : Nat) : Int) := by omega
      rw [z0]
      refine ⟨_, rfl, _, rfl, t1, _, _, _, rfl, rfl, h1, atI_strs hi, _, rfl, nin_strs (.inl (SqL.of hp)) ⟨_, rfl, ?_⟩⟩
      rw [decide_eq_true (hall.sub _ (List.getElem_mem hi))]
      refine iteF ⟨_, rfl, _, _, rfl, rfl, _, rfl, ?_⟩
      by_cases c : (0 : Int) < (i : Int)
      · rw [decide_eq_true c]
        have i1 : i - 1 < lot.length := by omega
        have e1 : (i : Int) - 1 = ((i - 1 : Nat) : Int) := by omega
        have lt : lS lot[i - 1] lot[i] := (List.pairwise_iff_getElem.mp sl) (i - 1) i i1 hi (by omega)
        refine iteT ⟨_, rfl, _, rfl, _, _, rfl, rfl, t1, _, _, _, rfl, rfl, h1, by rw [e1]; exact atI_strs i1, _, rfl, _, rfl, t1, _, _, _, rfl, rfl, h1, atI_strs hi, _, _, rfl, rfl, _, rfl, ?_⟩
        rw [lt.dec]
        exact iteF ⟨rfl, _, rfl⟩
      · rw [decide_eq_false c]
        exact iteF (iteF ⟨rfl, _, rfl⟩)
    · rintro σ H2 ⟨rfl, v6, rfl⟩
      refine ⟨by decide, fun D hD => ?_⟩
      have s1 : Same H2 (upd H2 D (.lst [])) := Same.new hD
      refine ⟨_, rfl, t1, rfl, ⟨_, h1.sameT s1⟩, for_w (Wk.tup (xs := lot.map V.str)) (fun i σ H' => ∃ v8 tk, σ = [some (.ref p), some (.ref r), some (.ref d), some (.ref a), some (.int bd), some (.ref t1), v6, some (.ref D), v8, none] ∧ Same H2 H' ∧ H' D = some (.lst (tk.map V.str)) ∧ tk.Nodup ∧ ∀ t, t ∈ tk ↔ ∃ g, g ∈ lot.take i ∧ t ∈ upTo rw_ pr (bd - 1) g)
        ⟨none, [], rfl, s1, upd_same, List.nodup_nil, by simp⟩ (fun i σ H' _ ⟨_, _, _, s, _⟩ => h1.sameT s) ?_ ?_⟩
      · rintro i y σ H3 H3' hi ⟨v8, tk, rfl, s3, d3, n3, m3⟩ ⟨rfl, hy⟩
        obtain ⟨g, hg, rfl⟩ := map_get hy
        have glot : g ∈ lot := List.mem_of_getElem? hg
        have gin := hall.sub g glot
        have Ra := R.at.same s3
        have tkl : tk.length ≤ 24 := Nat.le_trans (len_le_of_sub n3 fun t ht => (by
          obtain ⟨g', _, q⟩ := (m3 t).mp ht
          exact ro.sub g' t (GR.mem_upTo.mp q).1 : t ∈ ps)) n24
        refine ⟨_, rfl, .inl ⟨rfl, _, SqL.of d3⟩, ?_⟩
        refine ⟨_, rfl, _, rfl, r, _, rfl, Ra.get gin, ad g, rfl, ⟨_, Ra.seq gin⟩, fun D2 hD2 => ?_⟩
        refine lco_w (Wk.list (xs := (rw_ g).map V.str)) (fun j H' => Same H3' H' ∧ H' D2 = some (.lst ((((rw_ g).take j).filter fun t => decide (pr g t ≤ bd - 1) && !decide (t ∈ tk)).map V.str))) ⟨Same.new hD2, upd_same⟩ (fun j H' _ p => (Ra.same p.1).seq gin) ?_ ?_
        · rintro j y H4 H4' hj ⟨s4, d4⟩ ⟨rfl, hy⟩
          obtain ⟨t, ht, rfl⟩ := map_get hy
          have tin := List.mem_of_getElem? ht
          refine ⟨rfl, _, rfl, _, rfl, _, rfl, by show 2 ≤ sizeLine; decide, fun b hb => ?_⟩
          have s5 := Same.new' (o := .tup [.str g, .str t]) s4 hb
          have q1 := dget_t (x := (g, t)) (b := b) ((Lq.of (s3.trans s5)).rd _ _ trivial hd) upd_same
          rw [al g t gin tin] at q1
          have d5 : (upd H4' b (.tup [.str g, .str t])) D2 = some (.lst ((((rw_ g).take j).filter fun t => decide (pr g t ≤ bd - 1) && !decide (t ∈ tk)).map V.str)) := Same.new hb _ _ d4
          have dD5 := s5 _ _ d3
          refine ⟨d, _, rfl, q1, _, rfl, _, _, rfl, rfl, _, rfl, ?_⟩
          generalize upd H4' b (.tup [.str g, .str t]) = H5 at s5 d5 dD5 ⊢
          have fs := filter_snoc (p := fun t => decide (pr g t ≤ bd - 1) && !decide (t ∈ tk)) ht
          have eb : decide (pr g t < bd) = decide (pr g t ≤ bd - 1) := decide_eq_decide.mpr ⟨fun h => by omega, fun h => by omega⟩
          rw [eb]
          have skip : (decide (pr g t ≤ bd - 1) && !decide (t ∈ tk)) = false → Same H3' H5 ∧ H5 D2 = some (.lst ((((rw_ g).take (j + 1)).filter fun t => decide (pr g t ≤ bd - 1) && !decide (t ∈ tk)).map V.str)) := fun c => by
            rw [if_neg (by rw [c]; decide)] at fs
            rw [fs, List.append_nil]
            exact ⟨s5, d5⟩
          cases c1 : decide (pr g t ≤ bd - 1) with
          | false => exact iteF (iteF (skip (by rw [c1]; rfl)))
          | true =>
            refine iteT ⟨_, rfl, _, rfl, nin_strs (.inl (SqL.of dD5)) ⟨_, rfl, ?_⟩⟩
            cases c2 : !decide (t ∈ tk) with
            | false => exact iteF (skip (by rw [c1, c2]; rfl))
            | true =>
              rw [if_pos (by rw [c1, c2]; rfl)] at fs
              refine iteT ⟨_, rfl, _, d5, ?_, Same.mut s5 hD2, by rw [upd_same, fs, List.map_append]; rfl⟩
              rw [List.length_map]
              have q := List.length_filter_le (fun t => decide (pr g t ≤ bd - 1) && !decide (t ∈ tk)) ((rw_ g).take j)
              rw [List.length_take] at q
              have := ro.few ok g
              exact sz1000 (by omega)
        · rintro H4 ⟨s4, d4⟩
          rw [List.length_map, List.take_length] at d4
          generalize eys : (rw_ g).filter (fun t => decide (pr g t ≤ bd - 1) && !decide (t ∈ tk)) = ys at d4
          have ym : ∀ t, t ∈ ys ↔ t ∈ upTo rw_ pr (bd - 1) g ∧ t ∉ tk := fun t => by
            rw [← eys, List.mem_filter, GR.mem_upTo]
            simp
            exact ⟨fun ⟨a, b, c⟩ => ⟨⟨a, b⟩, c⟩, fun ⟨⟨a, b⟩, c⟩ => ⟨a, b, c⟩⟩
          have yn : ys.Nodup := by rw [← eys]; exact (ro.nd g).filter _
          have yl : ys.length ≤ 24 := Nat.le_trans (len_le_of_sub yn fun t ht => ro.sub g t (GR.mem_upTo.mp ((ym t).mp ht).1).1) n24
          have d4' := s4 _ _ d3
          refine ⟨D, D2, _, _, rfl, rfl, d4', d4, by rw [List.length_map, List.length_map]; exact sz1000' (by omega), ?_⟩
          refine ⟨_, tk ++ ys, rfl, Same.mut (s3.trans s4) hD, by rw [upd_same, List.map_append], List.nodup_append.mpr ⟨n3, yn, fun x hx y hy e => ((ym y).mp hy).2 (e ▸ hx)⟩, fun t => ?_⟩
          rw [List.mem_append, m3 t, ym t, take_snoc hg]
          constructor
          · rintro (⟨g', q1, q2⟩ | ⟨q1, _⟩)
            · exact ⟨g', List.mem_append_left _ q1, q2⟩
            · exact ⟨g, List.mem_append_right _ (List.mem_singleton.mpr rfl), q1⟩
          · rintro ⟨g', q1, q2⟩
            rcases List.mem_append.mp q1 with q | q
            · exact .inl ⟨g', q, q2⟩
            · rw [List.mem_singleton.mp q] at q2
              by_cases c : t ∈ tk
              · exact .inl ((m3 t).mp c)
              · exact .inr ⟨q2, c⟩
      · rintro σ H3 ⟨v8, tk, rfl, s3, d3, n3, m3⟩
        rw [List.length_map, List.take_length] at m3
        have tkl : tk.length ≤ 24 := Nat.le_trans (len_le_of_sub n3 fun t ht => (by
          obtain ⟨g', _, q⟩ := (m3 t).mp ht
          exact ro.sub g' t (GR.mem_upTo.mp q).1 : t ∈ ps)) n24
        have ets : srt tk = ts := (srt_srt n3).uniq st' fun t => by rw [mem_srt, m3 t, mem t]
        have tsl : ts.length = tk.length := by rw [← ets]; exact srt_len n3
        refine ⟨_, rfl, a, _, 1, _, rfl, rfl, hA.sameT s3, rfl, _, rfl, D, tk, rfl, SqL.of d3, by omega, fun ys q pm so hq => ?_⟩
        have e := sorted_is n3 pm so
        subst e
        refine ⟨q, _, rfl, .inl ⟨SqL.of upd_same, fun u hu' => ?_⟩⟩
        have s5 := Same.new' (o := .tup ((srt tk).map V.str)) (Same.new' (o := .lst ((srt tk).map V.str)) s3 hq) hu'
        have d5 := Same.new hu' (o := .tup ((srt tk).map V.str)) _ _ (Same.new hq (o := .lst ((srt tk).map V.str)) _ _ d3)
        refine ⟨t2, u, ts, rfl, h2.sameT s5, SqT.of (by rw [upd_same, ets]), by omega, fun H6 s6 => ⟨_, rfl, iteT ?_⟩⟩
        refine ⟨_, rfl, _, tk.length, rfl, len_go (SqL.of (s6 _ _ d5)), _, rfl, _, lot.length, rfl, .inr ⟨_, h1.sameT (s5.trans s6), by rw [List.length_map]⟩, _, _, rfl, rfl, ?_⟩
        have lt : (tk.length : Int) < (lot.length : Int) := by
          have e1 := len_le_of_sub n3 fun t ht => (by
            obtain ⟨g, hg, q⟩ := (m3 t).mp ht
            exact hall.cover g t hg q : t ∈ nb)
          have := hall.few
          omega
        show Q (.bl (decide ((tk.length : Int) < (lot.length : Int)))) H6
        rw [decide_eq_true lt]
        exact k H6 (s5.trans s6)
end
end GF

/- DRaise -/
set_option Elab.async false
set_option linter.all false
set_option maxRecDepth 100000
set_option maxHeartbeats 4000000
namespace GF
open PySem PySem.Spec PyProof.Rows L2 GR
/-- X() -/
theorem pmk_own0 {X : Cx} {C : Addr} {bmB : List Value} {B newId initId : String} {x : Str} {p pos : Pos} (F : ExcBaseFacts B newId initId bmB) (q : PySem.W.excIn X.K C bmB newId = true) (gC : X.mg x = some (.ref C)) (kC : PySem.W.keepIn X.K (.ref C) = true) (r : Raises X (.ref C)) (hg : Gl X x)
    (hdb : (x == ("__debug__" : Str)) = false := by decide) : PMk X (.Call (.Name x p) [] [] pos) (fun _ H Q => Q (.ref C) none H) := by
  intro pins s σ H Q I h
  refine wpAny_Call_Name_kw (ld_glob I hg gC ?_ hdb)
  refine PySem.W.callWith_K0 I.kIn kC ?_
  show wpAny _ _ (call (.ref C) []) _ _ _
  obtain ⟨bm, N, nm, qn, bs, hdct, sn, sub, ab, col, dd, k0, k1, k2, k3, k5, mN, hC, hN, hni, T⟩ := exc_obj I.kIn q
  refine wpAny_call_exc_subT F T hC hN hni (fun h' e hm => ?_) (by show 0 ≤ sizeLine; omega)
  exact mk_of I hm r h (I.hok.gone hm.new)
/-- o.append(e), the written part by name -/
theorem pe_appK {X : Cx} {K : PySem.W.Frag} {o e : Expr} {apos cpos : Pos} {to te : TE} (hK : X.K = K) (ho : PE X o to) (he : PE X e te) (hst : starEach [e] X.env = (false, eval e X.env) :: starEach [] X.env := by rfl)
    (hbase : attributeBase o "append" X.env (eval o X.env) = eval o X.env := by rfl)
    (hfew : ((backTo cpos (starEach [e] X.env)).all (fun x => !x.1) && (backToKw cpos (keywordEach [] X.env)).all (fun x => x.1.isSome)
      && decide (([e] : List Expr).length + ([] : List Keyword).length + (if ([] : List Keyword).isEmpty then 0 else 1) < 30)) = true := by rfl)
    (hline : (apos.endLine == cpos.line) = true := by rfl) (hplain : (backTo cpos (starEach [] X.env)).any (·.1) = false := by rfl) : PE X (.Call (.Attribute o "append" apos) [e] [] cpos) (tBM K "list" rAppend to (tCons te tNil)) := by
  subst hK
  exact pe_bm PySem.F.plainAttrs_list PySem.F.slot_list_append PySem.F.type_list_append mt_append ho (pa_cons he pa_nil hst) hbase hfew hline hst hplain
def spGreatestX (K : PySem.W.Frag) : Sp := fun vs H Q E => ∃ (x pa p d : Addr) (ps : List Str) (cl : List (Str × Str)) (rw_ : Str → List Str) (es : List ((Str × Str) × Int)) (pr : Str → Str → Int), vs = [.ref x, .ref d] ∧ BookAt K H x pa p ps cl rw_ ∧ PeopleOk ps ∧ RowOk ps rw_ ∧
  H d = some (dP es) ∧ PrOk ps cl rw_ es pr ∧ (¬ ∃ f, PM ps rw_ f) ∧ ∀ H', Same H H' → E (.ref (He.ga K "Empty")) none H'
def spRefused (K : PySem.W.Frag) : Sp := fun vs H Q _ => ∃ (x pa p d : Addr) (ps : List Str) (cl : List (Str × Str)) (rw_ : Str → List Str) (es : List ((Str × Str) × Int)) (pr : Str → Str → Int), vs = [.ref x, .ref d] ∧ BookAt K H x pa p ps cl rw_ ∧ PeopleOk ps ∧ RowOk ps rw_ ∧
  H d = some (dP es) ∧ PrOk ps cl rw_ es pr ∧ (¬ ∃ f, PM ps rw_ f) ∧ ∀ H', Same H H' → Q (.bl true) H'
abbrev nRefused : List Str := ["_law_book", "_law_prices_here", "_law_told"]
theorem scRefused : FnScope nRefused ["_law_book", "_law_prices_here"] dLawRefused.scope := ⟨rfl, rfl, rfl, by decide +kernel, rfl, by decide +kernel, by decide +kernel⟩
section
variable {P : Program} {w : World} {K : PySem.W.Frag} {mg : Str → Option Value} {base : Heap}
theorem ok_greatestX (T : Tx K mg) : Ok P w K mg base (L2.CX P w) 27 dGreatest ["book", "prices"] (spGreatestX K) := by
  have S1 := ok_checkp (P := P) (w := w) (base := base) T
  have S2 := ok_upto (P := P) (w := w) (base := base) T
  have S3 := ok_paired (P := P) (w := w) (base := base) T
  obtain ⟨fdR, FR, bR⟩ := (ok_brows (P := P) (w := w) (base := base) T).ex
  obtain ⟨fdF, FF, bF⟩ := (ok_bfree (P := P) (w := w) (base := base) T).ex
  obtain ⟨xP, kP, bP, tP⟩ := He.exc_ok T.x_Empty
  refine Ok.mkX T _ ixGreatest scGreatest (fun _ _ _ _ _ _ us hl => match us, hl with | [_, _], _ => rfl) (fun vs H Q E h => ?_) (fun f cdv A outer st H vs Q E hr h => ?_)
  · obtain ⟨x, pa, p, d, ps, cl, rw_, es, pr, rfl, _⟩ := h
    rfl
  · have hu := hu_of hr
    obtain ⟨x, pa, p, d, ps, cl, rw_, es, pr, rfl, B, ok, ro, hd, po, none_, k⟩ := h
    refine ⟨_, pss_cons (ps_nox (ps_expr (pc S1 hr (by decide) T.g_check_prices pass0 (pa_cons (pv 0) (pa_cons (pv 1) pa_nil)))))
      (pss_cons (ps_nox (ps_set (i := 2) scGreatest.nd rfl (.inl rfl) (pe_meth0 (pv 0) T.c_Book T.m_Book_rows FR (hr.mono (by decide)) bR .nil pass0)))
      (pss_cons (ps_nox (ps_setDg (i := 3) (own := [("pair", 6)]) (o := .dK []) (g := gName 6) (tt := tYes) hu rfl scGreatest.nd rfl rfl (sw_dict rfl rfl rfl rfl) (pi_list (pe_meth0 (pv 0) T.c_Book T.m_Book_free FF (hr.mono (by decide)) bF .nil pass0)) (blkOk_by (N := nGreatest) (sc := dGreatest.scope) (by decide +kernel))
          (fun _ _ _ _ _ => pg_name (i := 6) scGreatest.nd rfl (.inl rfl)) (fun _ _ _ _ _ => pts_nil) (fun _ _ _ _ _ => pe_dget hu (pv 1) (pv 6) (fun _ _ => rfl)) (fun _ _ _ _ _ => pe_bl)))
      (pss_cons (ps_nox (ps_for PassesOwn.never rfl (pi_list (pe_callB cr_sortedI (by rfl) T.f_sorted (by decide +kernel) (pa_cons (pe_callTy (call_listD rfl) (by rfl) T.f_list (by decide +kernel) (pa_cons (pv 3) pa_nil)) pa_nil))) (pg_name (i := 4) scGreatest.nd rfl (.inl rfl))
        (pss_cons (ps_set (i := 5) scGreatest.nd rfl (.inl rfl) (pc S3 hr (by decide) T.g_paired pass0 (pa_cons (pc S2 hr (by decide) T.g_rows_up_to pass0 (pa_cons (pv 2) (pa_cons (pv 1) (pa_cons (pv 4) pa_nil)))) pa_nil)))
        (pss_one (ps_if (pt_cmpR op_notN (pv 5) pe_non (nomark _)) pss_never pss_nil)))))
      (pss_one (ps_raise rfl (takes_of rfl rfl rfl rfl) (pmk_own0 PySem.F.excBase_ValueError xP T.g_Empty kP (raises_own bP tP) rfl)))))), ?_⟩
    refine ⟨_, rfl, _, rfl, x, pa, p, d, ps, cl, rw_, es, pr, rfl, B, ok, ro, hd, po, fun H1 s1 => ?_⟩
    obtain ⟨⟨lk, r0, dx, ad0, hx, R0⟩, hP⟩ := id B
    refine ⟨_, rfl, x, dx, _, rfl, s1 _ _ hx, fsBook_no pa lk r0 (by decide +kernel) (by decide +kernel) (by decide +kernel), x, pa, p, ps, cl, rw_, rfl, B.same s1, ok, fun H2 r ad s2 _ R => ?_⟩
    have s12 := s1.trans s2
    refine ⟨_, rfl, x, dx, _, rfl, s12 _ _ hx, fsBook_no pa lk r0 (by decide +kernel) (by decide +kernel) (by decide +kernel), x, pa, p, ps, cl, rw_, rfl, B.same s12, ok, ro, fun H3 l qs s3 _ hl hqs len mem => ?_⟩
    have s13 := s12.trans s3
    refine ⟨l, rfl, ⟨_, SqL.of hl⟩, fun D hD => ?_⟩
    have prq : ∀ q, q ∈ qs → q.2.1 ∈ ps ∧ q.2.2 ∈ rw_ q.2.1 := fun q m => (mem q.2).mp (List.mem_map.mpr ⟨q, m, rfl⟩)
    refine turns_w (Wk.list (xs := refs qs)) (fun i H' => Same H3 H' ∧ H' D = some (.dK (mp ki V.bl (knD ((qs.take i).map fun q => pr q.2.1 q.2.2))))) ⟨Same.new hD, upd_same⟩ (fun i H' _ p => p.1.seq (SqL.of hl)) ?_ ?_
    · rintro i y H4 H4' hi ⟨s4, d4⟩ ⟨rfl, hy⟩
      obtain ⟨q, hq, rfl⟩ := refs_get hy
      have qm := List.mem_of_getElem? hq
      have g1 := dget_t (x := q.2) (.inl ((s13.trans s4) _ _ hd)) (s4 _ _ (hqs q qm))
      rw [show gt es q.2 = some (pr q.2.1 q.2.2) from po.all q.2.1 q.2.2 (prq q qm).1 (prq q qm).2] at g1
      refine ⟨rfl, yesT ?_⟩
      refine ⟨_, rfl, _, rfl, d, _, rfl, g1, _, dput_i d4 _ true ?_, Same.mut s4 hD, ?_⟩
      · have h1 := knD_len ((qs.take i).map fun q => pr q.2.1 q.2.2)
        rw [List.length_map, List.length_take] at h1
        exact sz1000 (by omega)
      · rw [upd_same, take_snoc hq, List.map_append, List.map_singleton, knD_snoc]
    · rintro H4 ⟨s4, d4⟩
      rw [refs_len, List.take_length] at d4
      have s14 := s13.trans s4
      generalize knD (qs.map fun q => pr q.2.1 q.2.2) = kn at d4
      refine ⟨_, rfl, D, _, rfl, .inl d4, fun p0 hp0 => ?_⟩
      refine ⟨p0, keys kn, rfl, SqL.of (by rw [upd_same, mp_keysI]), fun ns p1 pm srt hp1 => ?_⟩
      have s6 := Same.new' (o := .lst (ns.map V.int)) (Same.new' (o := .lst ((mp ki V.bl kn).map fun kv => kV kv.1)) s14 hp0) hp1
      have hns : SqL K (upd (upd H4 p0 (.lst ((mp ki V.bl kn).map fun kv => kV kv.1))) p1 (.lst (ns.map V.int))) p1 (ns.map V.int) := SqL.of upd_same
      have s26 := Same.new' (o := .lst (ns.map V.int)) (Same.new' (o := .lst ((mp ki V.bl kn).map fun kv => kV kv.1)) (s3.trans s4) hp0) hp1
      generalize upd (upd H4 p0 (.lst ((mp ki V.bl kn).map fun kv => kV kv.1))) p1 (.lst (ns.map V.int)) = H6 at s6 hns s26 ⊢
      refine ⟨p1, rfl, ⟨_, hns⟩, for_w (Wk.list (xs := ns.map V.int)) (fun i σ H' => ∃ v w, σ = [some (.ref x), some (.ref d), some (.ref r), some (.ref D), v, w, none] ∧ Same H6 H') ⟨none, none, rfl, Same.refl _⟩ (fun i σ H' _ ⟨_, _, _, s⟩ => s.seq hns) ?_ ?_⟩
      · rintro i y σ H7 H7' hi ⟨v, w, rfl, s7⟩ ⟨rfl, hy⟩
        obtain ⟨m, hm, rfl⟩ := map_get hy
        have s17 := s6.trans s7
        refine ⟨_, rfl, _, rfl, _, rfl, r, d, ps, ad, rw_, es, pr, m, rfl, R.same (s26.trans s7), ok, ro, .inl (s17 _ _ hd), po.all, fun H8 r8 ad8 s8 R8 => ?_⟩
        refine ⟨r8, ps, ps, ad8, upTo rw_ pr m, rfl, R8, (ro.upTo pr m).tab ok, fun H9 dd f s9 _ hdd pm9 => absurd ⟨f, pm9.down.1⟩ none_, fun H9 s9 none9 => ?_⟩
        exact ⟨_, rfl, rfl, _, rfl, iteF ⟨_, _, rfl, (s7.trans s8).trans s9⟩⟩
      · rintro σ H7 ⟨v, w, rfl, s7⟩
        exact k _ (s6.trans s7)
theorem ok_glackX (T : Tx K mg) : Ok P w K mg base (L2.CX P w) 28 dGreatestLack ["book", "prices"] (spGreatestX K) := by
  obtain ⟨⟨fdG, FG, bG⟩, kG⟩ := ok_greatestX (P := P) (w := w) (base := base) T
  have S2 := ok_upto (P := P) (w := w) (base := base) T
  obtain ⟨fdR, FR, bR⟩ := (ok_brows (P := P) (w := w) (base := base) T).ex
  refine Ok.mkX T _ ixGreatestLack scGLack (fun _ _ _ _ _ _ us hl => match us, hl with | [_, _], _ => rfl) (fun vs H Q E h => ?_) (fun f cdv A outer st H vs Q E hr h => ?_)
  · obtain ⟨x, pa, p, d, ps, cl, rw_, es, pr, rfl, _⟩ := h
    rfl
  · have hu := hu_of hr
    obtain ⟨x, pa, p, d, ps, cl, rw_, es, pr, rfl, B, ok, ro, hd, po, none_, k⟩ := h
    refine ⟨_, pss_cons (ps_set (i := 2) scGLack.nd rfl (.inl rfl) (pc S2 hr (by decide) T.g_rows_up_to pass0 (pa_cons (pe_meth0 (pv 0) T.c_Book T.m_Book_rows FR (hr.mono (by decide)) bR .nil pass0) (pa_cons (pv 1)
        (pa_cons (pe_op op_sub (pe_ix ix_tup (pe_callS FG (hr.mono (by decide)) rfl T.g_greatest kG bG (fun σ => passAt (takes_of rfl rfl rfl rfl) σ) (pa_cons (pv 0) (pa_cons (pv 1) pa_nil))) pe_int (fun _ _ => rfl)) pe_int) pa_nil)))))
      (pss_never), ?_⟩
    obtain ⟨⟨lk, r0, dx, ad0, hx, R0⟩, hP⟩ := id B
    refine ⟨_, rfl, x, dx, _, rfl, hx, fsBook_no pa lk r0 (by decide +kernel) (by decide +kernel) (by decide +kernel), x, pa, p, ps, cl, rw_, rfl, B, ok, fun H1 r ad s1 _ R => ?_⟩
    exact ⟨_, rfl, _, rfl, _, rfl, x, pa, p, d, ps, cl, rw_, es, pr, rfl, B.same s1, ok, ro, s1 _ _ hd, po, none_, fun H2 s2 => k H2 (s1.trans s2)⟩
theorem ok_refused (T : Tx K mg) : Ok P w K mg base CX0 29 dLawRefused ["_law_book", "_law_prices_here"] (spRefused K) := by
  obtain ⟨⟨fdG, FG, bG⟩, kG⟩ := ok_greatestX (P := P) (w := w) (base := base) T
  obtain ⟨⟨fdL, FL, bL⟩, kL⟩ := ok_glackX (P := P) (w := w) (base := base) T
  refine Ok.mk0 T _ ixLawRefused scRefused (fun _ _ _ _ _ _ us hl => match us, hl with | [_, _], _ => rfl) (fun vs H Q E h => ?_) (fun f cdv A outer st H vs Q E hr h => ?_)
  · obtain ⟨x, pa, p, d, ps, cl, rw_, es, pr, rfl, _⟩ := h
    rfl
  · have hu64 := hr.units
    obtain ⟨x, pa, p, d, ps, cl, rw_, es, pr, rfl, B, ok, ro, hd, po, none_, k⟩ := h
    have eE := He.exm_ok T.e_Empty
    refine ⟨_, pss_cons (ps_set (i := 2) scRefused.nd rfl (.inl rfl) (pe_lst pa_nil))
      (pss_cons (ps_try_only rfl rfl ⟨rfl, by decide, .inl T.g_Empty⟩ takes0
          (fun W pn xe tk _ => pss_one (ps_expr (pe_appK (K := K) rfl (pv 2) (pe_callS FG (hr.mono (by decide)) (by rfl) T.g_greatest kG bG (fun σ => passAt tk σ) (pa_cons (pv 0) (pa_cons (pv 1) pa_nil))))))
          (fun a oe cls d pn _ _ => pss_one (ps_expr (pe_appK (K := K) rfl (pv 2) pe_str))))
      (pss_cons (ps_try_only rfl rfl ⟨rfl, by decide, .inl T.g_Empty⟩ takes0
          (fun W pn xe tk _ => pss_one (ps_expr (pe_appK (K := K) rfl (pv 2) (pe_callS FL (hr.mono (by decide)) (by rfl) T.g_greatest_lack kL bL (fun σ => passAt tk σ) (pa_cons (pv 0) (pa_cons (pv 1) pa_nil))))))
          (fun a oe cls d pn _ _ => pss_one (ps_expr (pe_appK (K := K) rfl (pv 2) pe_str))))
      (pss_one (ps_ret (pe_cmpR (op_eqD hu64) (pv 2) (pe_lst (pa_cons pe_str (pa_cons pe_str pa_nil))) (nomark _)))))), ?_⟩
    refine ⟨by decide, fun D hD => ?_⟩
    have s0 : Same H (upd H D (.lst [])) := Same.new hD
    have d0 : (upd H D (.lst [])) D = some (.lst []) := upd_same
    generalize upd H D (.lst []) = H0 at s0 d0 ⊢
    refine ⟨_, rfl, .inl ⟨rfl, _, SqL.of d0⟩, _, rfl, _, rfl, x, pa, p, d, ps, cl, rw_, es, pr, rfl, B.same s0, ok, ro, s0 _ _ hd, po, none_, fun H1 s1 => ⟨true, eE, fun _ a ha => ?_, fun q => Bool.noConfusion q⟩⟩
    have d1 := s1 _ _ d0
    refine ⟨_, rfl, .inl ⟨rfl, _, SqL.of d1⟩, D, _, _, rfl, rfl, d1, by decide, ?_⟩
    have s2 : Same H (upd H1 D (.lst ([] ++ [V.str "empty"]))) := Same.mut (s0.trans s1) hD
    have d2 : (upd H1 D (.lst ([] ++ [V.str "empty"]))) D = some (.lst [V.str "empty"]) := upd_same
    generalize upd H1 D (.lst ([] ++ [V.str "empty"])) = H2 at s2 d2 ⊢
    refine ⟨_, rfl, .inl ⟨rfl, _, SqL.of d2⟩, _, rfl, _, rfl, x, pa, p, d, ps, cl, rw_, es, pr, rfl, B.same s2, ok, ro, s2 _ _ hd, po, none_, fun H3 s3 => ⟨true, eE, fun _ a ha => ?_, fun q => Bool.noConfusion q⟩⟩
    have d3 := s3 _ _ d2
    refine ⟨_, rfl, .inl ⟨rfl, _, SqL.of d3⟩, D, _, _, rfl, rfl, d3, by show 1 < sizeLine; decide, ?_⟩
    have s4 : Same H (upd H3 D (.lst ([V.str "empty"] ++ [V.str "empty"]))) := Same.mut (s2.trans s3) hD
    have d4 : (upd H3 D (.lst ([V.str "empty"] ++ [V.str "empty"]))) D = some (.lst [V.str "empty", .str "empty"]) := upd_same
    generalize upd H3 D (.lst ([V.str "empty"] ++ [V.str "empty"])) = H4 at s4 d4 ⊢
    refine ⟨_, rfl, by show 2 ≤ sizeLine; decide, fun b hb => ?_⟩
    have d5 : (upd H4 b (.lst [V.str "empty", .str "empty"])) D = some (.lst [V.str "empty", .str "empty"]) := Same.new hb _ _ d4
    have dp : ∀ (a : Addr) (H' : Hp), H' a = some (.lst [V.str "empty", .str "empty"]) → Dp K H' (.ref a) (.list [.str "empty", .str "empty"]) := fun a H' h => .lst (SqL.of h) (.cons (.str _) (.cons (.str _) .nil))
    have sh : SeqAt.shaped (.list [.str "empty", .str "empty"]) = true := by decide +kernel
    have ev : PyData.eqv (.list [.str "empty", .str "empty"]) (.list [.str "empty", .str "empty"]) = true := by decide +kernel
    refine ⟨_, _, dp D _ d5, dp b _ upd_same, sh, sh, ?_⟩
    rw [ev]
    exact k _ (Same.new' s4 hb)
end
end GF

/- LLaw -/
set_option Elab.async false
set_option linter.all false
set_option maxRecDepth 100000
set_option maxHeartbeats 4000000
namespace GF
open PySem PySem.Spec PyProof.Rows L2 GR
def spLaw (K : PySem.W.Frag) : Sp := fun vs H Q _ => ∃ (a : Addr) (ns : List Int), vs = [.ref a] ∧ SqL K H a (ns.map V.int) ∧ ns.length ≤ 63 ∧ ∀ H', Q (.bl true) H'
abbrev nLaw : List Str := ["_law_script", "_law_draws_here", "_law_people_here", "_law_closed", "_law_leaks", "_law_rows_here", "_law_prices_here", "_law_book", "_law_one", "_law_told", "_law_number", "_law_known", "_law_bound", "_law_lower", "_law_places", "_law_pair", "_law_price_here", "_law_due"]
theorem scLaw : FnScope nLaw ["_law_script"] dLaw.scope := ⟨rfl, rfl, rfl, by decide +kernel, rfl, by decide +kernel, by decide +kernel⟩
/-- the lesser of both -/
def mn (a b : Int) : Int := if b < a then b else a
theorem mn_mono (b : Int) : ∀ x y, x ≤ y → mn x b ≤ mn y b := fun x y h => by
  unfold mn
  split <;> split <;> omega
theorem mn_rng {a b : Int} (h : 0 ≤ a ∧ a ≤ top_) (hb : 0 ≤ b) : 0 ≤ mn a b ∧ mn a b ≤ top_ := by
  unfold mn
  split <;> omega
/-- how many of them are less -/
def cnt (ns : List Int) (x : Int) : Int := ((ns.filter fun n => decide (n < x)).length : Int)
theorem cnt_cons (a : Int) (l : List Int) (x : Int) : cnt (a :: l) x = (if a < x then 1 else 0) + cnt l x := by
  unfold cnt
  rw [List.filter_cons]
  by_cases c : a < x
  · rw [if_pos (by simpa using c), if_pos c, List.length_cons]
    omega
  · rw [if_neg (by simpa using c), if_neg c]
    omega
theorem cnt_mono (ns : List Int) : ∀ x y, x ≤ y → cnt ns x ≤ cnt ns y := fun x y h => by
  induction ns with
  | nil => exact Int.le_refl _
  | cons a l ih =>
    rw [cnt_cons, cnt_cons]
    by_cases c : a < x
    · rw [if_pos c, if_pos (by omega)]
      omega
    · by_cases d : a < y
      · rw [if_neg c, if_pos d]
        omega
      · rw [if_neg c, if_neg d]
        omega
theorem gt_mapv {es : List ((Str × Str) × Int)} (φ : Int → Int) : ∀ q, gt (es.map fun e => (e.1, φ e.2)) q = (gt es q).map φ := by
  intro q
  induction es with
  | nil => rfl
  | cons e l ih =>
    rw [List.map_cons, gt_cons, gt_cons, ih]
    by_cases c : e.1 = q
    · rw [if_pos c, if_pos c]; rfl
    · rw [if_neg c, if_neg c]
theorem keys_mapv (es : List ((Str × Str) × Int)) (φ : Int → Int) : keys (es.map fun e => (e.1, φ e.2)) = keys es := by
  unfold keys
  rw [List.map_map]
  rfl
theorem PrOk.mapv {ps : List Str} {cl : List (Str × Str)} {rw_ : Str → List Str} {es : List ((Str × Str) × Int)} {pr : Str → Str → Int} (h : PrOk ps cl rw_ es pr) (φ : Int → Int) (hφ : ∀ v, 0 ≤ v ∧ v ≤ top_ → 0 ≤ φ v ∧ φ v ≤ top_) :
    PrOk ps cl rw_ (es.map fun e => (e.1, φ e.2)) (fun g t => φ (pr g t)) := by
  refine ⟨by rw [keys_mapv]; exact h.nd, fun q hq => h.op q (by rw [keys_mapv] at hq; exact hq), fun g t hg ht => by rw [gt_mapv, h.all g t hg ht]; rfl, fun q v e => ?_, by rw [List.length_map]; exact h.few⟩
  rw [gt_mapv] at e
  cases c : gt es q with
  | none => rw [c] at e; cases e
  | some u =>
    rw [c] at e
    cases e
    exact hφ u (h.rng q u c)
theorem put_mapv {es : List ((Str × Str) × Int)} (n : (keys es).Nodup) (φ : Int → Int) {i : Nat} {e : (Str × Str) × Int} (h : es[i]? = some e) : put ((es.take i).map fun e => (e.1, φ e.2)) e.1 (φ e.2) = (es.take (i + 1)).map fun e => (e.1, φ e.2) := by
  rw [put_new, take_snoc h, List.map_append]
  · rfl
  · rw [keys_mapv]
    have hk : (keys es)[i]? = some e.1 := by unfold keys; rw [List.getElem?_map, h]; rfl
    have := not_mem_take n hk
    unfold keys at this ⊢
    rw [← List.map_take] at this
    exact this
section
variable {P : Program} {w : World} {K : PySem.W.Frag} {mg : Str → Option Value} {base : Heap}
omit base in
theorem mkA {d : He.DefD} {k : Nat} {ps : List Str} {sp : Sp} (T : Tx K mg) (i : Nat) (hi : fn[i]? = some d) {N : List Str} (S : FnScope N ps d.scope)
    (hb : ∀ (kV doc pm : Value) (an : Option Addr) (cdv ct : Value) (us : List Value), us.length = ps.length → bindArgs (PySem.W.fnOf d.name d.qual d.params d.body d.scope .none kV doc pm an cdv ct) ⟨us, []⟩ = pure (ps.zip us))
    (len : ∀ vs H Q E, sp vs H Q E → vs.length = ps.length)
    (hbody : ∀ (base : Heap) (f : Addr) (cdv : Value) (A : Around) (outer : List Env) (s : Shared) (H : Hp) (vs : List V) (Q : VK) (E : XK), Room k (A.deeper (envOfC d.qual d.scope s.heap.objs.size f cdv)) → sp vs H Q E →
      ∃ t, PSs (cxOf CX0 P w K mg base N d.qual d.scope f cdv A outer s H E).nox d.body t ∧ t { nx := fun _ H' => Q .non H', rt := Q } (start N vs) H) (hd : d.dfl = [] := by rfl) (hk : d.kwd = [] := by rfl) :
    ∃ fd : FuncData, (∀ (s : Shared) (us : List Value), us.length = ps.length → BindsTo s fd ⟨us, []⟩ (ps.zip us)) ∧ ∀ base : Heap, FnOk P w K mg base CX0 (k + 1) (He.fAd K d.at_) fd ps sp := by
  obtain ⟨fd, F⟩ := T.says.def_ i hi
  unfold He.DefD.dvs He.DefD.kws at F
  rw [hd, hk] at F
  refine ⟨fd, FunD.bindsA F hb, fun base => FunD.ok F S len fun cdv A outer s H vs Q E hr hsp => ?_⟩
  obtain ⟨t, h, q⟩ := hbody base _ cdv A outer s H vs Q E hr hsp
  exact ⟨t, h.nox, q⟩
omit base in
theorem ok_law (T : Tx K mg) : ∃ fd : FuncData, (∀ (s : Shared) (us : List Value), us.length = ["_law_script"].length → BindsTo s fd ⟨us, []⟩ (List.zip ["_law_script"] us)) ∧ ∀ base : Heap, FnOk P w K mg base CX0 30 (He.fAd K dLaw.at_) fd ["_law_script"] (spLaw K) := by
  refine mkA T _ ixLaw scLaw (fun _ _ _ _ _ _ us hl => match us, hl with | [_], _ => rfl) (fun vs H Q E h => ?_) (fun base => ?_)
  · obtain ⟨a, ns, rfl, _⟩ := h
    rfl
  · have Sc := ok_cell (P := P) (w := w) (base := base) T
    have Sd := ok_draws (P := P) (w := w) (base := base) T
    have Sw := ok_world (P := P) (w := w) (base := base) T
    have Sr := ok_rows (P := P) (w := w) (base := base) T
    have Sp' := ok_lprices (P := P) (w := w) (base := base) T
    have Sdr := ok_drawing (P := P) (w := w) (base := base) T
    have Slk := ok_lack (P := P) (w := w) (base := base) T
    have Srf := ok_refused (P := P) (w := w) (base := base) T
    have Sg := ok_greatest (P := P) (w := w) (base := base) T
    have Sgl := ok_glack (P := P) (w := w) (base := base) T
    have Sch := ok_cheapest (P := P) (w := w) (base := base) T
    have Sid := ok_isd (P := P) (w := w) (base := base) T
    have Sgo := ok_gof (P := P) (w := w) (base := base) T
    have Sil := ok_islack (P := P) (w := w) (base := base) T
    have Se := ok_eq0 (P := P) (w := w) (base := base) T
    obtain ⟨fdP, FP, bP⟩ := (ok_pinit (P := P) (w := w) (base := base) T).ex
    obtain ⟨fdB, FB, bB⟩ := (ok_binit (P := P) (w := w) (base := base) T).ex
    intro f cdv A outer st H vs Q E hr h
    have hu := hu_of hr
    obtain ⟨sc, ns, rfl, hsc, n63, k⟩ := h
    refine ⟨_, pss_cons (ps_set (i := 1) scLaw.nd rfl (.inl rfl) (pc Sd hr (by decide) T.g__law_draws pass0 (pa_cons (pc Sc hr (by decide) T.g__law_cell pass0 (pa_cons (pv 0) (pa_cons pe_int pa_nil))) (pa_cons pe_int pa_nil))))
      (pss_cons (ps_asg (pc Sw hr (by decide) T.g__law_world pass0 (pa_cons (pv 0) (pa_cons (pe_ix ix_list (pe_lst (pa_cons pe_int (pa_cons pe_int (pa_cons pe_int (pa_cons pe_int (pa_cons pe_int pa_nil)))))) (pe_op op_mod (pe_callTy call_int1 (by rfl) T.f_int (by decide +kernel) (pa_cons (pe_ix ix_list (pv 1) pe_int (fun _ _ => rfl)) pa_nil)) pe_int) (fun _ _ => rfl)) (pa_cons pe_int pa_nil))))
          (pg_tup rfl (pgs_cons (pg_name (i := 2) scLaw.nd rfl (.inl rfl)) (pgs_cons (pg_name (i := 3) scLaw.nd rfl (.inl rfl)) (pgs_cons (pg_name (i := 4) scLaw.nd rfl (.inl rfl)) pgs_nil)))))
      (pss_cons (ps_set (i := 5) scLaw.nd rfl (.inl rfl) (pc Sr hr (by decide) T.g__law_rows pass0 (pa_cons (pv 2) (pa_cons (pv 3) (pa_cons (pv 4) pa_nil)))))
      (pss_cons (ps_set (i := 6) scLaw.nd rfl (.inr rfl) (pc Sp' hr (by decide) T.g__law_prices pass0 (pa_cons (pc Sc hr (by decide) T.g__law_cell pass0 (pa_cons (pv 0) (pa_cons pe_int pa_nil))) (pa_cons (pv 2) (pa_cons (pv 3) (pa_cons (pv 5) pa_nil))))))
      (pss_cons (ps_set (i := 7) scLaw.nd rfl (.inl rfl) (pe_make T.k_Book FB (hr.mono (by decide)) (by rfl) T.g_Book bB .nil pass0 (pa_cons (pe_make T.k_Party FP (hr.mono (by decide)) (by rfl) T.g_Party bP .nil pass0 (pa_cons (pe_callTy (T := "tuple") call_tuple_of (by rfl) T.f_tuple (by decide +kernel) (pa_cons (pv 2) pa_nil)) (pa_cons (pe_callTy (T := "list") call_list_of (by rfl) T.f_list (by decide +kernel) (pa_cons (pv 3) pa_nil)) pa_nil)))
          (pa_cons (pe_callTy (T := "list") call_list_of (by rfl) T.f_list (by decide +kernel) (pa_cons (pv 4) pa_nil)) pa_nil))))
      (pss_cons (ps_set (i := 8) scLaw.nd rfl (.inl rfl) (pc Sdr hr (by decide) T.g_drawing pass0 (pa_cons (pv 7) pa_nil)))
      (pss_cons (ps_if (pt_cmpR op_isN (pv 8) pe_non (nomark _))
        (pss_one (ps_ret (pe_and (pe_cmpR op_notN (pc Slk hr (by decide) T.g_lack pass0 (pa_cons (pv 7) pa_nil)) pe_non (nomark _)) (pe_one (pc Srf hr (by decide) T.g__law_refused pass0 (pa_cons (pv 7) (pa_cons (pv 6) pa_nil))))))) pss_nil)
      (pss_cons (ps_set (i := 9) scLaw.nd rfl (.inl rfl) (pc Sg hr (by decide) T.g_greatest pass0 (pa_cons (pv 7) (pa_cons (pv 6) pa_nil))))
      (pss_cons (ps_if (PW.pt (pw_or (pt_not (pt_val (pe_callB call_isi (by rfl) T.f_isinstance (by decide +kernel) (pa_cons (pv 9) (pa_cons (pe_bltn (v := .ty "tuple") (by rfl) T.f_tuple (by decide +kernel) rfl) pa_nil)))))
          (pw_or (pt_cmpR op_ne (pe_callB call_len (by rfl) T.f_len (by decide +kernel) (pa_cons (pv 9) pa_nil)) pe_int (nomark _))
          (pw_or1 (pt_not (pt_val (pc Sid hr (by decide) T.g__law_is_drawing pass0 (pa_cons (pe_ix ix_tup (pv 9) pe_int (fun _ _ => rfl)) (pa_cons (pv 2) (pa_cons (pv 5) pa_nil)))))))))) pss_never pss_nil)
      (pss_cons (ps_set (i := 10) scLaw.nd rfl (.inr rfl) (pe_ix ix_tup (pv 9) pe_int (fun _ _ => rfl)))
      (pss_cons (ps_if (pt_not (pt_val (pc Se hr (by decide) T.g__law_equal pass0 (pa_cons (pv 10) (pa_cons (pc Sgo hr (by decide) T.g__law_greatest_of pass0 (pa_cons (pv 6) (pa_cons (pe_ix ix_tup (pv 9) pe_int (fun _ _ => rfl)) pa_nil))) pa_nil))))) pss_never pss_nil)
      (pss_cons (ps_if (pt_not (pt_val (pc Sil hr (by decide) T.g__law_is_lack pass0 (pa_cons (pv 2) (pa_cons (pv 5) (pa_cons (pv 6) (pa_cons (pc Sgl hr (by decide) T.g_greatest_lack pass0 (pa_cons (pv 7) (pa_cons (pv 6) pa_nil))) (pa_cons (pv 10) pa_nil)))))))) pss_never pss_nil)
      (pss_cons (ps_if (PW.pt (pw_or (pt_cmpR op_lt (pc Sgo hr (by decide) T.g__law_greatest_of pass0 (pa_cons (pv 6) (pa_cons (pv 8) pa_nil))) (pv 10) (nomark _))
          (pw_or1 (pt_cmpR op_lt (pc Sgo hr (by decide) T.g__law_greatest_of pass0 (pa_cons (pv 6) (pa_cons (pe_ix ix_tup (pc Sch hr (by decide) T.g_cheapest pass0 (pa_cons (pv 7) (pa_cons (pv 6) pa_nil))) pe_int (fun _ _ => rfl)) pa_nil))) (pv 10) (nomark _))))) pss_never pss_nil)
      (pss_cons (ps_set (i := 11) scLaw.nd rfl (.inl rfl) (pe_callB cr_sortedI (by rfl) T.f_sorted (by decide +kernel) (pa_cons (pe_listVals rfl (pv 6) (by rfl) T.f_list (by decide +kernel)) pa_nil)))
      (pss_cons (ps_set (i := 12) scLaw.nd rfl (.inl rfl) (pe_ix ix_list (pe_lst (pa_cons (pe_ix ix_list (pv 11) (pe_op op_mod (pe_callTy call_int1 (by rfl) T.f_int (by decide +kernel) (pa_cons (pe_ix ix_list (pv 1) pe_int (fun _ _ => rfl)) pa_nil)) (pe_callB call_len (by rfl) T.f_len (by decide +kernel) (pa_cons (pv 11) pa_nil))) (fun _ _ => rfl))
          (pa_cons (pv 10) (pa_cons (pe_callB (call_max2 rfl) (by rfl) T.f_max (by decide +kernel) (pa_cons pe_int (pa_cons (pe_op op_sub (pv 10) pe_int) pa_nil))) (pa_cons (pe_ix ix_list (pv 1) pe_int (fun _ _ => rfl)) pa_nil)))))
          (pe_op op_mod (pe_callTy call_int1 (by rfl) T.f_int (by decide +kernel) (pa_cons (pe_ix ix_list (pv 1) pe_int (fun _ _ => rfl)) pa_nil)) pe_int) (fun _ _ => rfl)))
      (pss_cons (ps_set (i := 13) scLaw.nd rfl (.inl rfl) pe_dnewT)
      (pss_cons (ps_set (i := 14) scLaw.nd rfl (.inl rfl) pe_dnewT)
      (pss_cons (ps_lock (ps_for PassesOwn.never rfl (pi_keys (pv 6)) (pg_name (i := 15) scLaw.nd rfl (.inr rfl))
        (pss_cons (ps_dput hu (pv 13) (pv 15) (pe_callB (call_min2 rfl) (by rfl) T.f_min (by decide +kernel) (pa_cons (pe_dget hu (pv 6) (pv 15) (fun _ _ => rfl)) (pa_cons (pv 12) pa_nil))) rfl)
        (pss_one (ps_dput hu (pv 14) (pv 15) (pe_callB call_len (by rfl) T.f_len (by decide +kernel) (pa_cons (pe_lc (own := [("_law_price_here", 16)]) (g := gName 16) rfl scLaw.nd (pi_list (pv 11)) (blkOk_by (N := nLaw) (sc := dLaw.scope) (by decide +kernel))
          (fun _ _ _ _ _ => pg_name (i := 16) scLaw.nd rfl (.inl rfl)) (fun _ _ _ _ _ => pts_one (pt_cmpR op_lt (pv 16) (pe_dget hu (pv 6) (pv 15) (fun _ _ => rfl)) (nomark _))) (fun _ _ _ _ _ => pv 16)) pa_nil)) rfl)))))
      (pss_cons (ps_if (pt_not (pt_val (pc Se hr (by decide) T.g__law_equal pass0 (pa_cons (pe_ix ix_tup (pc Sg hr (by decide) T.g_greatest pass0 (pa_cons (pv 7) (pa_cons (pv 13) pa_nil))) pe_int (fun _ _ => rfl)) (pa_cons (pe_callB (call_min2 rfl) (by rfl) T.f_min (by decide +kernel) (pa_cons (pv 10) (pa_cons (pv 12) pa_nil))) pa_nil))))) pss_never pss_nil)
      (pss_cons (ps_set (i := 17) scLaw.nd rfl (.inl rfl) (pe_callB call_len (by rfl) T.f_len (by decide +kernel) (pa_cons (pe_lc (own := [("_law_price_here", 16)]) (g := gName 16) rfl scLaw.nd (pi_list (pv 11)) (blkOk_by (N := nLaw) (sc := dLaw.scope) (by decide +kernel))
          (fun _ _ _ _ _ => pg_name (i := 16) scLaw.nd rfl (.inl rfl)) (fun _ _ _ _ _ => pts_one (pt_cmpR op_lt (pv 16) (pv 10) (nomark _))) (fun _ _ _ _ _ => pv 16)) pa_nil)))
      (pss_one (ps_ret (pc Se hr (by decide) T.g__law_equal pass0 (pa_cons (pe_ix ix_tup (pc Sg hr (by decide) T.g_greatest pass0 (pa_cons (pv 7) (pa_cons (pv 14) pa_nil))) pe_int (fun _ _ => rfl)) (pa_cons (pv 17) pa_nil)))))))))))))))))))))))), ?_⟩
    refine ⟨_, rfl, sc, ns, 10, rfl, hsc, n63, by decide, fun c0 => ⟨c0, 6, rfl, by decide, fun H1 dl ds s1 _ hdl len dok => ?_⟩⟩
    have i0 : 0 < ds.length := by omega
    have i1 : 1 < ds.length := by omega
    have i2 : 2 < ds.length := by omega
    have i3 : 3 < ds.length := by omega
    have b0 := dok _ (List.getElem_mem i0)
    have b2 := dok _ (List.getElem_mem i2)
    have b3 := dok _ (List.getElem_mem i3)
    -- the world
    refine ⟨_, rfl, by show 5 ≤ sizeLine; decide, fun t ht => ?_⟩
    have s2 := Same.new' (o := .lst [V.int 4, .int 6, .int 8, .int 12, .int 24]) s1 ht
    have hdl2 : (upd H1 t (.lst [V.int 4, .int 6, .int 8, .int 12, .int 24])) dl = some (.lst (ds.map V.int)) := Same.new ht _ _ hdl
    obtain ⟨wn, hw, hwl⟩ : ∃ wn : Nat, ds[0] % 5 = (wn : Int) ∧ wn < 5 := ⟨(ds[0] % 5).toNat, by omega, by omega⟩
    have wl : wn < ([4, 6, 8, 12, 24] : List Int).length := hwl
    have hmo : ∃ mo : Nat, ([4, 6, 8, 12, 24] : List Int)[wn] = (mo : Int) ∧ 3 ≤ mo ∧ mo ≤ 24 := by
      have : wn = 0 ∨ wn = 1 ∨ wn = 2 ∨ wn = 3 ∨ wn = 4 := by omega
      rcases this with rfl | rfl | rfl | rfl | rfl
      · exact ⟨4, rfl, by decide, by decide⟩
      · exact ⟨6, rfl, by decide, by decide⟩
      · exact ⟨8, rfl, by decide, by decide⟩
      · exact ⟨12, rfl, by decide, by decide⟩
      · exact ⟨24, rfl, by decide, by decide⟩
    obtain ⟨mo, emo, mo3, mo24⟩ := hmo
    refine ⟨_, rfl, dl, _, (0 : Nat), _, rfl, rfl, SqL.of hdl2, atI_ints i0, .inl ⟨_, rfl, _, _, rfl, rfl, by show (0 : Int) < 5; decide, t, _, _, V.int (mo : Int), rfl, rfl, SqL.of upd_same, by rw [hw, ← emo]; exact atI_ints wl, ?_⟩⟩
    refine ⟨sc, ns, mo, rfl, s2.seq hsc, n63, mo3, mo24, fun H3 a p l m ps qs ks s3 ha W3 => ?_⟩
    have s13 := s2.trans s3
    have hdl3 := s3 _ _ hdl2
    refine ⟨a, _, rfl, SqT.of ha, rfl, _, _, rfl, _, _, rfl, _, _, rfl, rfl, ?_⟩
    have ok := W3.ok
    have n24 := ok.hi
    -- rows, prices
    refine ⟨_, rfl, _, rfl, _, rfl, p, l, m, ps, qs, ks, rfl, W3, fun H4 r ad s4 _ R4 => ?_⟩
    refine ⟨_, rfl, sc, ns, 9, rfl, (s13.trans s4).seq hsc, n63, by decide, fun c9 => ⟨_, rfl, _, rfl, _, rfl, c9, p, l, m, r, ps, qs, ks, ad, rfl, W3.same s4, R4, fun H5 d es pr s5 _ hd5 po => ?_⟩⟩
    have W5 := W3.same (s4.trans s5)
    have R5 := R4.same s5
    have hdl5 := (s4.trans s5) _ _ hdl3
    have ro := frow_ok ok (qs.map (·.2)) (ks.map (·.2))
    generalize erw : frow ps (qs.map (·.2)) (ks.map (·.2)) = rw_ at R5 po ro
    generalize ecl : qs.map (·.2) = cl at po
    clear R4 s13 hdl3 hdl2
    -- the book
    refine ⟨_, rfl, p, _, rfl, .inl ⟨SqL.of W5.hp, fun pt hpt => ?_⟩⟩
    have s6 : Same H5 (upd H5 pt (.tup (ps.map V.str))) := Same.new hpt
    have pt6 : (upd H5 pt (.tup (ps.map V.str))) pt = some (.tup (ps.map V.str)) := upd_same
    generalize upd H5 pt (.tup (ps.map V.str)) = H6 at s6 pt6 ⊢
    have W6 := W5.same s6
    refine ⟨_, rfl, l, _, rfl, .inl (SqL.of W6.hl), fun l2 hl2 => ?_⟩
    have s7 : Same H6 (upd H6 l2 (.lst (refs qs))) := Same.new hl2
    have l27 : (upd H6 l2 (.lst (refs qs))) l2 = some (.lst (refs qs)) := upd_same
    generalize upd H6 l2 (.lst (refs qs)) = H7 at s7 l27 ⊢
    intro x dx hx hdx nex
    have s8 : Same H7 (upd (upd H7 dx (.own x)) x (.ins (He.ga K "Party") dx [])) := Same.new' (Same.new hdx) (by rw [upd_ne (Ne.symm nex)]; exact hx)
    have ix8 : (upd (upd H7 dx (.own x)) x (.ins (He.ga K "Party") dx [])) x = some (.ins (He.ga K "Party") dx []) := upd_same
    generalize upd (upd H7 dx (.own x)) x (.ins (He.ga K "Party") dx []) = H8 at s8 ix8 ⊢
    have s58 := (s6.trans s7).trans s8
    refine ⟨x, pt, l2, dx, ps, qs, rfl, ix8, SqT.of (s8 _ _ (s7 _ _ pt6)), ok, SqL.of (s8 _ _ l27), W5.hq.same s58, Nat.le_trans W5.fewq (by decide), W5.bar, fun H9 b9 PA9 => ⟨rfl, ?_⟩⟩
    have s79 : Same H7 H9 := ((But.of s8).trans b9).same fun a ha => by rw [List.mem_singleton.mp ha]; exact hx
    have s59 := (s6.trans s7).trans s79
    have W9 := W5.same s59
    refine ⟨_, rfl, m, _, rfl, .inl (SqL.of W9.hm), fun m2 hm2 => ?_⟩
    have s10 : Same H9 (upd H9 m2 (.lst (refs ks))) := Same.new hm2
    have m10 : (upd H9 m2 (.lst (refs ks))) m2 = some (.lst (refs ks)) := upd_same
    generalize upd H9 m2 (.lst (refs ks)) = H10 at s10 m10 ⊢
    intro x2 dx2 hx2 hdx2 nex2
    have s11 : Same H10 (upd (upd H10 dx2 (.own x2)) x2 (.ins (He.ga K "Book") dx2 [])) := Same.new' (Same.new hdx2) (by rw [upd_ne (Ne.symm nex2)]; exact hx2)
    have ix11 : (upd (upd H10 dx2 (.own x2)) x2 (.ins (He.ga K "Book") dx2 [])) x2 = some (.ins (He.ga K "Book") dx2 []) := upd_same
    have PA10 := PA9.same s10
    have nx2 : x ≠ x2 := by
      obtain ⟨⟨d0, dx0, h0, _⟩, _⟩ := PA10
      exact ne_of_none h0 hx2
    generalize upd (upd H10 dx2 (.own x2)) x2 (.ins (He.ga K "Book") dx2 []) = H11 at s11 ix11 ⊢
    refine ⟨x2, x, pt, m2, dx2, ps, qs.map (·.2), ks, rfl, ix11, PA10.same s11, nx2, ok, SqL.of (s11 _ _ m10), W9.hk.same (s10.trans s11), Nat.le_trans W9.fewk (by decide), fun H12 b12 B12 => ⟨rfl, ?_⟩⟩
    have s1012 : Same H10 H12 := ((But.of s11).trans b12).same fun a ha => by rw [List.mem_singleton.mp ha]; exact hx2
    have s512 := s59.trans (s10.trans s1012)
    rw [erw, ecl] at B12
    have W12 := W5.same s512
    have R12 := R5.same s512
    have hd12 := s512 _ _ hd5
    have hdl12 := s512 _ _ hdl5
    clear W3 W5 W6 W9 R5 PA9 PA10 s58 s59 s1012 b12 b9 s8 s79 s10 s11 s6 s7 ix8 ix11
    -- a drawing, or none
    refine ⟨_, rfl, x2, x, pt, ps, cl, rw_, rfl, B12, ok, ro, fun H13 d1 f1 s13 hd1 pm1 => ?_, fun H13 s13 none_ => ?_⟩
    rotate_left
    · refine ⟨_, rfl, rfl, _, rfl, iteT ?_⟩
      refine ⟨_, rfl, x2, x, pt, ps, cl, rw_, rfl, B12.same s13, ok, ro, none_, fun H14 a2 s14 => ⟨rfl, _, rfl, iteT ?_⟩⟩
      exact ⟨_, rfl, _, rfl, x2, x, pt, d, ps, cl, rw_, es, pr, rfl, (B12.same s13).same s14, ok, ro, s14 _ _ (s13 _ _ hd12), po, none_, fun H15 s15 => k H15⟩
    refine ⟨_, rfl, rfl, _, rfl, iteF ?_⟩
    have full : ∃ f, PM ps rw_ f := ⟨f1, pm1⟩
    refine ⟨_, rfl, _, rfl, x2, x, pt, d, ps, cl, rw_, es, pr, rfl, B12.same s13, ok, ro, s13 _ _ hd12, po, full, fun H14 ta dd mm f s14 hta hdd least pm => ?_⟩
    have sA := s13.trans s14
    have B14 := B12.same sA
    have W14 := W12.same sA
    have R14 := R12.same sA
    have hd14 := sA _ _ hd12
    have hdl14 := sA _ _ hdl12
    have hd1' := s14 _ _ hd1
    clear B12 W12 R12 hd12 hdl12 hd1 s13 s14 sA
    have pm0 := pm.down.1
    have allf : ∀ {f : Str → Str}, PM ps rw_ f → ∀ g, g ∈ ps → gt es (g, f g) = some (pr g (f g)) := fun p g hg => po.all g _ hg (p.ok g hg)
    refine ⟨_, rfl, _, _, _, _, true, rfl, .ty _, tyT (SqT.of hta), kit_ty (by decide +kernel), true, rfl, iteF ?_⟩
    refine ⟨_, rfl, _, 2, rfl, .inr ⟨_, SqT.of hta, rfl⟩, rfl, _, rfl, iteF ?_⟩
    refine ⟨_, rfl, ta, _, 1, _, rfl, rfl, SqT.of hta, rfl, _, rfl, _, rfl, dd, p, r, ps, f, ad, rw_, rfl, hdd, W14.hp, ok, R14, pm0, fun H15 s15 => ⟨_, rfl, iteF ?_⟩⟩
    refine ⟨_, rfl, ta, _, 0, _, rfl, rfl, SqT.of (s15 _ _ hta), rfl, ?_⟩
    -- the number is the greatest price
    refine ⟨_, rfl, _, rfl, _, rfl, ta, _, 1, _, rfl, rfl, SqT.of (s15 _ _ hta), rfl, d, dd, ps, f, es, pr, rfl, .inl (s15 _ _ hd14), s15 _ _ hdd, ok.ne, ok.hi, allf pm0, fun H16 m' s16 ⟨g0, hg0, e0⟩ all0 => .inl ⟨mm, m', rfl, _, rfl, ?_⟩⟩
    have em : mm = m' := by
      obtain ⟨g1, hg1, e1⟩ := least.max pm0 fun g hg => pm.down.2 g hg
      have h1 := all0 g1 hg1
      have h2 := pm.down.2 g0 hg0
      omega
    rw [decide_eq_true em]
    refine iteF ?_
    have s146 := s15.trans s16
    -- the lot
    refine ⟨_, rfl, _, rfl, _, rfl, _, rfl, _, rfl, x2, x, pt, d, ps, cl, rw_, es, pr, rfl, B14.same s146, ok, ro, s146 _ _ hd14, po, full, fun H17 la t1 t2 m2' lot ts nb s17 hla ht1 ht2 least2 sl hall st' mem => ?_⟩
    obtain rfl : m2' = mm := least2.uniq least
    have s147 := s146.trans s17
    refine ⟨_, rfl, p, r, d, la, t1, t2, m2', ps, ad, rw_, es, pr, lot, ts, nb, rfl, (W14.same s147).hp, ok, R14.same s147, ro, .inl (s147 _ _ hd14), po.all, hla, ht1, ht2, sl, hall, st', mem, fun H18 s18 => ⟨_, rfl, iteF ?_⟩⟩
    have s148 := s147.trans s18
    -- every drawing costs so much
    have cost : ∀ {f : Str → Str} {v : Int}, PM ps rw_ f → (∀ g, g ∈ ps → pr g (f g) ≤ v) → ¬ v < m2' := fun p hv lt => by
      obtain ⟨g, hg, h1⟩ := least.all _ p
      have := hv g hg
      omega
    refine ⟨_, rfl, _, rfl, d, d1, ps, f1, es, pr, rfl, .inl (s148 _ _ hd14), s148 _ _ hd1', ok.ne, ok.hi, allf pm1, fun H19 m3 s19 _ all3 => ⟨_, rfl, _, _, rfl, rfl, _, rfl, ?_⟩⟩
    rw [decide_eq_false (cost pm1 all3)]
    refine iteF ?_
    have s149 := s148.trans s19
    refine ⟨_, rfl, _, rfl, _, rfl, x2, x, pt, d, ps, cl, rw_, es, pr, rfl, B14.same s149, ok, ro, s149 _ _ hd14, po, full, fun H20 ca dd2 n2 f2 s20 hca hdd2 pm2 => ?_⟩
    have s150 := s149.trans s20
    refine ⟨ca, _, 1, _, rfl, rfl, SqT.of hca, rfl, d, dd2, ps, f2, es, pr, rfl, .inl (s150 _ _ hd14), hdd2, ok.ne, ok.hi, allf pm2, fun H21 m4 s21 _ all4 => ⟨_, rfl, _, _, rfl, rfl, _, rfl, ?_⟩⟩
    rw [decide_eq_false (cost pm2 all4)]
    refine iteF ?_
    have s151 := s150.trans s21
    have B21 := B14.same s151
    have hd21 := s151 _ _ hd14
    have hdl21 := s151 _ _ hdl14
    clear B14 W14 R14 s15 s16 s146 s17 s147 s18 s148 s19 s149 s20 s150 s21 s151 hdl14 hd14 hta hdd hla ht1 ht2 hca hdd2 hd1'
    -- the known prices
    refine ⟨_, rfl, d, _, rfl, .inl hd21, fun v1 hv1 => ?_⟩
    have ev : (mp k2 V.int es).map (·.2) = (es.map (·.2)).map V.int := by unfold mp; rw [List.map_map, List.map_map]; rfl
    refine ⟨v1, es.map (·.2), rfl, SqL.of (by rw [upd_same, ev]), fun kn v2 pmk sok hv2 => ?_⟩
    have s22 : Same H21 (upd (upd H21 v1 (.lst ((mp k2 V.int es).map (·.2)))) v2 (.lst (kn.map V.int))) := Same.new' (Same.new hv1) hv2
    have hkn : (upd (upd H21 v1 (.lst ((mp k2 V.int es).map (·.2)))) v2 (.lst (kn.map V.int))) v2 = some (.lst (kn.map V.int)) := upd_same
    generalize upd (upd H21 v1 (.lst ((mp k2 V.int es).map (·.2)))) v2 (.lst (kn.map V.int)) = H22 at s22 hkn ⊢
    have knr : ∀ x, x ∈ kn → 0 ≤ x ∧ x ≤ top_ := fun x hx => by
      obtain ⟨e, he, q⟩ := List.mem_map.mp (pmk.mem_iff.mp hx)
      exact q ▸ po.rng e.1 e.2 (gt_of_mem po.nd he)
    have knl : kn.length = es.length := by rw [pmk.length_eq, List.length_map]
    have knf : kn.length ≤ 576 := by rw [knl]; exact po.few
    have kn0 : 0 < kn.length := by
      obtain ⟨g, hg⟩ := List.exists_mem_of_ne_nil ps ok.ne
      have e := allf pm1 g hg
      rw [knl]
      exact List.length_pos_of_mem (gt_mem e)
    have mrng : 0 ≤ m2' := by
      rw [em, e0]
      exact (po.rng _ _ (allf pm0 g0 hg0)).1
    have kp : (0 : Int) < (kn.length : Int) := by omega
    have q0 := Int.emod_nonneg ds[1] (show (kn.length : Int) ≠ 0 by omega)
    have q1 := Int.emod_lt_of_pos ds[1] kp
    obtain ⟨j, hj⟩ : ∃ j : Nat, ds[1] % (kn.length : Int) = (j : Int) := ⟨(ds[1] % (kn.length : Int)).toNat, by omega⟩
    have jl : j < kn.length := by omega
    have hdl22 := s22 _ _ hdl21
    have hd22 := s22 _ _ hd21
    have B22 := B21.same s22
    refine ⟨_, rfl, _, rfl, dl, _, (1 : Nat), _, rfl, rfl, SqL.of hdl22, atI_ints i1, .inl ⟨_, rfl, _, rfl, _, kn.length, rfl, .inl ⟨_, SqL.of hkn, (List.length_map _).symm⟩, _, _, rfl, rfl, kp, v2, _, _, V.int kn[j], rfl, rfl, SqL.of hkn, by rw [hj]; exact atI_ints jl, ?_⟩⟩
    refine ⟨_, rfl, _, rfl, _, _, rfl, rfl, _, _, rfl, ?_⟩
    refine ⟨_, rfl, dl, _, (2 : Nat), _, rfl, rfl, SqL.of hdl22, atI_ints i2, by show 4 ≤ sizeLine; decide, fun bl hbl => ?_⟩
    have kj := knr _ (List.getElem_mem jl)
    generalize kn[j] = x0 at kj ⊢
    obtain ⟨mx, hmx, mx0⟩ : ∃ mx : Int, (if m2' - 1 > 0 then m2' - 1 else 0) = mx ∧ 0 ≤ mx := ⟨_, rfl, by split <;> omega⟩
    have s23 : Same H22 (upd H22 bl (.lst [V.int x0, .int m2', .int (if m2' - 1 > 0 then m2' - 1 else 0), .int ds[2]])) := Same.new hbl
    have hb23 : (upd H22 bl (.lst [V.int x0, .int m2', .int (if m2' - 1 > 0 then m2' - 1 else 0), .int ds[2]])) bl = some (.lst (([x0, m2', mx, ds[2]] : List Int).map V.int)) := by rw [upd_same, ← hmx]; rfl
    generalize upd H22 bl (.lst [V.int x0, .int m2', .int (if m2' - 1 > 0 then m2' - 1 else 0), .int ds[2]]) = H23 at s23 hb23 ⊢
    obtain ⟨bn, hbn, hbnl⟩ : ∃ bn : Nat, ds[3] % 4 = (bn : Int) ∧ bn < 4 := ⟨(ds[3] % 4).toNat, by omega, by omega⟩
    have bnl : bn < ([x0, m2', mx, ds[2]] : List Int).length := hbnl
    refine ⟨_, rfl, dl, _, (3 : Nat), _, rfl, rfl, SqL.of (s23 _ _ hdl22), atI_ints i3, .inl ⟨_, rfl, _, _, rfl, rfl, by show (0 : Int) < 4; decide, bl, _, _, _, rfl, rfl, SqL.of hb23, by rw [hbn]; exact atI_ints bnl, ?_⟩⟩
    have bpos : 0 ≤ ([x0, m2', mx, ds[2]] : List Int)[bn] := by
      have hm := List.getElem_mem bnl
      simp only [List.mem_cons, List.mem_nil_iff, or_false] at hm
      rcases hm with q | q | q | q <;> rw [q] <;> omega
    generalize ([x0, m2', mx, ds[2]] : List Int)[bn] = bd at bpos ⊢
    have hd23 := s23 _ _ hd22
    have hkn23 := s23 _ _ hkn
    have B23 := B22.same s23
    clear B21 B22 hd21 hd22 hdl21 hdl22 hkn s22 s23 hb23
    -- the two tables
    intro lo hlo pl hpl
    have nlp : lo ≠ pl := ne_of_none upd_same hpl
    have hpl0 : H23 pl = none := by rw [upd_ne (Ne.symm nlp)] at hpl; exact hpl
    have ndl : d ≠ lo := ne_of_none hd23 hlo
    have ndp : d ≠ pl := ne_of_none hd23 hpl0
    have S24 : Same H23 (upd (upd H23 lo (.dT [])) pl (.dT [])) := Same.new' (Same.new hlo) hpl
    have lo24 : (upd (upd H23 lo (.dT [])) pl (.dT [])) lo = some (dP []) := Same.new hpl _ _ upd_same
    have pl24 : (upd (upd H23 lo (.dT [])) pl (.dT [])) pl = some (dP []) := upd_same
    generalize upd (upd H23 lo (.dT [])) pl (.dT []) = H24 at S24 lo24 pl24 ⊢
    have hd24 := S24 _ _ hd23
    refine ⟨d, _, hd24, trivial, fun od => ?_⟩
    have frz : (upd H24 d (.frz od (dP es))) d = some (.frz od (dP es)) := upd_same
    have S0 : Same (upd H23 d (.frz od (dP es))) (upd H24 d (.frz od (dP es))) := fun b o e => by
      by_cases c : b = d
      · rw [c, upd_same] at e ⊢; exact e
      · rw [upd_ne c] at e ⊢; exact S24 _ _ e
    have lo0 : (upd H23 d (.frz od (dP es))) lo = none := by rw [upd_ne (Ne.symm ndl)]; exact hlo
    have pl0 : (upd H23 d (.frz od (dP es))) pl = none := by rw [upd_ne (Ne.symm ndp)]; exact hpl0
    have frz0 : (upd H23 d (.frz od (dP es))) d = some (.frz od (dP es)) := upd_same
    have kn0' : SqL K (upd H23 d (.frz od (dP es))) v2 (kn.map V.int) := (Lq.lock od hd23 trivial).sqL (SqL.of hkn23)
    have lo25 : (upd H24 d (.frz od (dP es))) lo = some (dP []) := by rw [upd_ne (Ne.symm ndl)]; exact lo24
    have pl25 : (upd H24 d (.frz od (dP es))) pl = some (dP []) := by rw [upd_ne (Ne.symm ndp)]; exact pl24
    refine ⟨_, rfl, d, od, rfl, .inr ⟨_, frz, ?_⟩⟩
    refine for_w Wk.keysT (fun i σ H' => ∃ v, σ = [some (.ref sc), some (.ref dl), some (.ref p), some (.ref l), some (.ref m), some (.ref r), some (.ref d), some (.ref x2), some (.ref d1), some (.ref ta), some (.int m2'), some (.ref v2), some (.int bd), some (.ref lo), some (.ref pl), v, none, none] ∧
        Same (upd H23 d (.frz od (dP es))) H' ∧ H' lo = some (dP ((es.take i).map fun e => (e.1, mn e.2 bd))) ∧ H' pl = some (dP ((es.take i).map fun e => (e.1, cnt kn e.2))))
      ⟨none, rfl, S0, lo25, pl25⟩ (fun i σ H' _ ⟨_, _, s, _⟩ => s _ _ frz0) ?_ ?_
    · rintro i y σ H6 H6' hi ⟨v, rfl, s6, lo6, pl6⟩ ⟨rfl, e, qa, he, rfl, hqa⟩
      have ge : gt es e.1 = some e.2 := gt_of_mem po.nd (List.mem_of_getElem? he)
      have few := po.few
      have tl : ∀ φ : Int → Int, ((es.take i).map fun e => (e.1, φ e.2)).length < sizeLine := fun φ => by
        rw [List.length_map, List.length_take]
        exact sz1000 (by omega)
      have g1 := dget_t (x := e.1) (h := V.int) (.inr ⟨od, s6 _ _ frz0⟩) hqa
      rw [ge] at g1
      have p1 := dput_t (h := V.int) lo6 hqa (mn e.2 bd) (tl fun x => mn x bd)
      rw [put_mapv po.nd (fun x => mn x bd) he] at p1
      refine ⟨_, rfl, _, rfl, d, _, rfl, g1, _, rfl, _, _, rfl, _, rfl, _, rfl, lo, _, rfl, p1, ?_⟩
      have nql : qa ≠ lo := fun z => by rw [z, lo6] at hqa; cases hqa
      have s7 := Same.mut (o := dP ((es.take (i + 1)).map fun e => (e.1, mn e.2 bd))) s6 lo0
      have hqa7 : (upd H6' lo (dP ((es.take (i + 1)).map fun e => (e.1, mn e.2 bd)))) qa = some (.tup [.str e.1.1, .str e.1.2]) := by rw [upd_ne nql]; exact hqa
      have pl7 : (upd H6' lo (dP ((es.take (i + 1)).map fun e => (e.1, mn e.2 bd)))) pl = some (dP ((es.take i).map fun e => (e.1, cnt kn e.2))) := by rw [upd_ne (Ne.symm nlp)]; exact pl6
      have lo7 : (upd H6' lo (dP ((es.take (i + 1)).map fun e => (e.1, mn e.2 bd)))) lo = some (dP ((es.take (i + 1)).map fun e => (e.1, mn e.2 bd))) := upd_same
      generalize upd H6' lo (dP ((es.take (i + 1)).map fun e => (e.1, mn e.2 bd))) = H7 at s7 hqa7 pl7 lo7 ⊢
      refine ⟨_, rfl, v2, rfl, ⟨_, s7.seq kn0'⟩, fun D hD => ?_⟩
      refine lco_w (Wk.list (xs := kn.map V.int)) (fun j H' => Same H7 H' ∧ H' D = some (.lst (((kn.take j).filter fun n => decide (n < e.2)).map V.int))) ⟨Same.new hD, upd_same⟩ (fun j H' _ p => (s7.trans p.1).seq kn0') ?_ ?_
      · rintro j y H8 H8' hj' ⟨s8, d8⟩ ⟨rfl, hy⟩
        obtain ⟨n, hn, rfl⟩ := map_get hy
        have g8 := dget_t (x := e.1) (h := V.int) (.inr ⟨od, s8 _ _ (s7 _ _ frz0)⟩) (s8 _ _ hqa7)
        rw [ge] at g8
        have fs := filter_snoc (p := fun n => decide (n < e.2)) hn
        refine ⟨rfl, _, rfl, _, rfl, _, rfl, d, _, rfl, g8, _, _, rfl, rfl, _, rfl, ?_⟩
        cases c : decide (n < e.2) with
        | false =>
          rw [if_neg (by rw [c]; decide)] at fs
          refine iteF ⟨s8, ?_⟩
          rw [fs, List.append_nil]
          exact d8
        | true =>
          rw [if_pos c] at fs
          refine iteT ⟨_, rfl, _, d8, ?_, Same.mut s8 hD, by rw [upd_same, fs, List.map_append]; rfl⟩
          rw [List.length_map]
          have q := List.length_filter_le (fun n => decide (n < e.2)) (kn.take j)
          rw [List.length_take] at q
          exact sz1000 (by omega)
      · rintro H8 ⟨s8, d8⟩
        rw [List.length_map, List.take_length] at d8
        have p2 := dput_t (h := V.int) (s8 _ _ pl7) (s8 _ _ hqa7) (cnt kn e.2) (tl (cnt kn))
        rw [put_mapv po.nd (cnt kn) he] at p2
        refine ⟨_, (kn.filter fun n => decide (n < e.2)).length, rfl, .inl ⟨_, SqL.of d8, (List.length_map _).symm⟩, _, rfl, _, rfl, pl, _, rfl, p2, ?_⟩
        exact ⟨_, rfl, Same.mut (s7.trans s8) pl0, by rw [upd_ne nlp]; exact s8 _ _ lo7, upd_same⟩
    · rintro σ H6 ⟨v, rfl, s6, lo6, pl6⟩
      rw [List.take_length] at lo6 pl6
      refine ⟨s6 _ _ frz0, ?_⟩
      have sU : Same H23 (upd H6 d (dP es)) := Same.unlock hd23 s6
      have lo7 : (upd H6 d (dP es)) lo = some (dP (es.map fun e => (e.1, mn e.2 bd))) := by rw [upd_ne (Ne.symm ndl)]; exact lo6
      have pl7 : (upd H6 d (dP es)) pl = some (dP (es.map fun e => (e.1, cnt kn e.2))) := by rw [upd_ne (Ne.symm ndp)]; exact pl6
      generalize upd H6 d (dP es) = H7 at sU lo7 pl7 ⊢
      have B7 := B23.same sU
      have kn7 := sU _ _ hkn23
      have po1 := po.mapv (fun x => mn x bd) fun v hv => mn_rng hv bpos
      have po2 := po.mapv (cnt kn) fun v _ => by
        have q := List.length_filter_le (fun n => decide (n < v)) kn
        have : (576 : Int) ≤ top_ := by decide
        show 0 ≤ ((kn.filter fun n => decide (n < v)).length : Int) ∧ ((kn.filter fun n => decide (n < v)).length : Int) ≤ top_
        omega
      have L1 := least.map (fun x => mn x bd) (mn_mono bd)
      have L2' := least.map (cnt kn) (cnt_mono kn)
      -- all prices above the bound put down to it
      refine ⟨_, rfl, _, rfl, x2, x, pt, lo, ps, cl, rw_, _, _, rfl, B7, ok, ro, lo7, po1, full, fun H8 a8 dd8 m8 f8 s8 ha8 _ least8 _ => ?_⟩
      refine ⟨a8, _, 0, _, rfl, rfl, SqT.of ha8, rfl, _, rfl, _, rfl, _, _, rfl, .inl ⟨m8, mn m2' bd, rfl, _, rfl, ?_⟩⟩
      rw [decide_eq_true (least8.uniq L1)]
      refine iteF ?_
      -- the place
      refine ⟨_, rfl, v2, rfl, ⟨_, SqL.of (s8 _ _ kn7)⟩, fun D hD => ?_⟩
      refine lco_w (Wk.list (xs := kn.map V.int)) (fun j H' => Same H8 H' ∧ H' D = some (.lst (((kn.take j).filter fun n => decide (n < m2')).map V.int))) ⟨Same.new hD, upd_same⟩ (fun j H' _ p => p.1.seq (SqL.of (s8 _ _ kn7))) ?_ ?_
      · rintro j y H9 H9' hj' ⟨s9, d9⟩ ⟨rfl, hy⟩
        obtain ⟨n, hn, rfl⟩ := map_get hy
        have fs := filter_snoc (p := fun n => decide (n < m2')) hn
        refine ⟨rfl, _, rfl, _, rfl, _, _, rfl, rfl, _, rfl, ?_⟩
        cases c : decide (n < m2') with
        | false =>
          rw [if_neg (by rw [c]; decide)] at fs
          refine iteF ⟨s9, ?_⟩
          rw [fs, List.append_nil]
          exact d9
        | true =>
          rw [if_pos c] at fs
          refine iteT ⟨_, rfl, _, d9, ?_, Same.mut s9 hD, by rw [upd_same, fs, List.map_append]; rfl⟩
          rw [List.length_map]
          have q := List.length_filter_le (fun n => decide (n < m2')) (kn.take j)
          rw [List.length_take] at q
          exact sz1000 (by omega)
      · rintro H9 ⟨s9, d9⟩
        rw [List.length_map, List.take_length] at d9
        refine ⟨_, (kn.filter fun n => decide (n < m2')).length, rfl, .inl ⟨_, SqL.of d9, (List.length_map _).symm⟩, ?_⟩
        have s89 := s8.trans s9
        refine ⟨_, rfl, _, rfl, x2, x, pt, pl, ps, cl, rw_, _, _, rfl, B7.same s89, ok, ro, s89 _ _ pl7, po2, full, fun H10 a10 dd10 m10 f10 s10 ha10 _ least10 _ => ?_⟩
        refine ⟨a10, _, 0, _, rfl, rfl, SqT.of ha10, rfl, _, rfl, .inl ⟨m10, cnt kn m2', rfl, ?_⟩⟩
        rw [decide_eq_true (least10.uniq L2')]
        exact k H10
end
end GF

/- HeadC -/
set_option Elab.async false
set_option linter.all false
set_option maxRecDepth 100000
set_option maxHeartbeats 0
namespace GF
open PySem PySem.Spec PyProof.Rows L2
theorem facts {P : Program} {w : World} {K : PySem.W.Frag} {h : Heap} {mg : Str → Option Value} {f : Addr} (X : K.In h) (G : h.Ns mainGlobals mg) (hfa : mg ("law" : Str) = some (.ref f)) (c : He.SaysD fa fn K) :
    ∃ fd : FuncData, (∀ (s : Shared) (v : Value), BindsTo s fd ⟨[v], []⟩ [("_law_script", v)]) ∧ ∀ base : Heap, K.In base → base.Ns mainGlobals mg → FnOk P w K mg base CX0 60 f fd ["_law_script"] (spLaw K) := by
  have T : Tx K mg := ⟨c, h, X, G⟩
  obtain ⟨fd, hb, F⟩ := ok_law (P := P) (w := w) T
  have e : f = He.fAd K dLaw.at_ := by
    have := T.g_law
    rw [hfa] at this
    injection this with this
    injection this with this
  refine ⟨fd, fun s v => hb s [v] rfl, fun base _ _ => ?_⟩
  rw [e]
  exact (F base).mono (by decide)
end GF
open PySem PySem.W PySem.Calls PyProof.Rows
theorem PySem.Challenge.cw_giftrings_k89_whole_greatest_price_or_la_holds : PySem.Challenge.rw_giftrings_k89_whole_greatest_price_or_la.Holds := by
  w_on; o_law
  refine HandSHeadRun.head_any (r := OpenLaw.row PySem.Challenge.rw_giftrings_k89_whole_greatest_price_or_la) (q := GF.qv) (H := GF.hk) (ob := GF.ob) (M := 6000) (loose := GF.loose) (d := HandSHeadRun.topDef (OpenLaw.row PySem.Challenge.rw_giftrings_k89_whole_greatest_price_or_la).prog 71) (kwd := []) GF.ob_eq
    (by kernel_rfl) (fun s => by kernel_rfl) GF.run (by kernel_rfl) (by kernel_rfl) (by kernel_rfl) (by rfl) (by first | assumption | decide +kernel) (by decide +kernel) ⟨rfl, rfl, rfl, rfl, rfl, by decide +kernel⟩ ?hw ?hc
  case hw => w_witness2
  case hc =>
    refine L2.walk_ofE (l := PySem.Challenge.rw_giftrings_k89_whole_greatest_price_or_la) (n := 63) (k := 60) (x := "_law_script") (CX := L2.CX0) rfl (by decide) (by kernel_rfl) ⟨rfl, by decide, by decide⟩ ?F (fun _ _ _ _ z => z)
    intro w mg fa h Y G hmg0
    obtain ⟨K, KX, c⟩ := Y
    have hmg : mg ("law" : PySem.Str) = some (.ref fa) := by
      have e : (HandSHeadRun.topDef (OpenLaw.row PySem.Challenge.rw_giftrings_k89_whole_greatest_price_or_la).prog 71).name = ("law" : PySem.Str) := by kernel_rfl
      rw [← e]
      exact hmg0
    obtain ⟨fd, hb, hF⟩ := GF.facts (P := (PySem.Challenge.rw_giftrings_k89_whole_greatest_price_or_la).prog) (w := w) KX G hmg c
    exact ⟨K, fd, GF.spLaw K, KX, hb, fun H a ns hl _ hS => ⟨a, ns, rfl, hS, hl, fun _ => rfl⟩, hF⟩
